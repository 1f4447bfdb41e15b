import PyProof.Rows.All
import Wide.All
import OpenK.AllK
import Wide.FinOn
import HandS.ForSpec
import HandS.ForMost
import HandS.IsInst
import HandS.Flow
import HandS.Wide
import HandS.Codes
import HandS.Evl
import HandS.TupAny
import HandS.Style
import HandS.TupLen
import HandS.CallSlots
import PySem.Challenge.RW_rotward_k03_log_blocks_and_tails
set_option Elab.async false
set_option linter.all false
set_option maxRecDepth 100000
set_option maxHeartbeats 4000000
/-! ### Core: what a def is worth by its name, calls by it, steps of readings -/
namespace Rw
open PySem PySem.Spec PyProof.Rows L2
/-- the module's name x stands for a def that keeps sp at level k -/
def Has (P : Program) (w : World) (K : PySem.W.Frag) (mg : Str → Option Value) (base : Heap) (CX : CXT) (k : Nat) (x : Str) (ps : List Str) (sp : Sp) : Prop :=
  ∃ (f : Addr) (fd : FuncData), mg x = some (.ref f) ∧ PySem.W.keepIn K (.ref f) = true ∧ Binds K fd ps [] ∧ (∃ oc od osl, K.lookup f = some ⟨oc, od, .func fd, osl⟩) ∧ FnOk P w K mg base CX k f fd ps sp
/-- the text's def as the top leaves it -/
def Def (K : PySem.W.Frag) (mg : Str → Option Value) (x qual : Str) (st : Stmt) (ps : List Str) : Prop :=
  ∃ (f : Addr) (fd : FuncData), mg x = some (.ref f) ∧ Fun K x qual st f fd ∧ Binds K fd ps []
theorem fun_look {K : PySem.W.Frag} {x qual : Str} {st : Stmt} {f : Addr} {fd : FuncData} (F : Fun K x qual st f fd) : ∃ oc od osl, K.lookup f = some ⟨oc, od, .func fd, osl⟩ := by
  obtain ⟨oc, od, _, _, _, _, _, _, osl, _, l, _⟩ := F.ex
  exact ⟨oc, od, osl, l⟩
section
variable {P : Program} {w : World} {K : PySem.W.Frag} {mg : Str → Option Value} {base : Heap} {CX : CXT} {k : Nat} {x qual : Str} {st : Stmt} {ps N : List Str} {sp : Sp}
theorem Def.has (D : Def K mg x qual st ps) (S : FnScope N ps (defScope st)) (len : ∀ vs H Q E, sp vs H Q E → vs.length = ps.length)
    (hbody : ∀ (f : Addr) (cdv : Value) (A : Around) (outer : List Env) (s : Shared) (H : Hp) (vs : List V) (Q : VK) (E : XK), Room k (A.deeper (envOfC qual (defScope st) s.heap.objs.size f cdv)) → sp vs H Q E →
      ∃ t, PSs (cxOf CX0 P w K mg base N qual (defScope st) f cdv A outer s H E).nox (defBody st) t ∧ t { nx := fun _ H' => Q .non H', rt := Q } (start N vs) H) : Has P w K mg base CX0 (k + 1) x ps sp := by
  obtain ⟨f, fd, g, F, b⟩ := D
  exact ⟨f, fd, g, F.kp, b, fun_look F, F.ok S len (hbody f)⟩
theorem Def.hasX (D : Def K mg x qual st ps) (S : FnScope N ps (defScope st)) (len : ∀ vs H Q E, sp vs H Q E → vs.length = ps.length)
    (hbody : ∀ (f : Addr) (cdv : Value) (A : Around) (outer : List Env) (s : Shared) (H : Hp) (vs : List V) (Q : VK) (E : XK), Room k (A.deeper (envOfC qual (defScope st) s.heap.objs.size f cdv)) → sp vs H Q E →
      ∃ t, PSs (cxOf (L2.CX P w) P w K mg base N qual (defScope st) f cdv A outer s H E) (defBody st) t ∧ t { nx := fun _ H' => Q .non H', rt := Q } (start N vs) H) : Has P w K mg base (L2.CX P w) (k + 1) x ps sp := by
  obtain ⟨f, fd, g, F, b⟩ := D
  exact ⟨f, fd, g, F.kp, b, fun_look F, F.okX S len (hbody f)⟩
/-- the law's own def, for walk_of -/
theorem Has.law {fa : Addr} (h : ∀ base, Has P w K mg base CX k x ps sp) (D : ∃ (f : Addr) (fd : FuncData), mg x = some (.ref f) ∧ (∃ oc od osl, K.lookup f = some ⟨oc, od, .func fd, osl⟩) ∧ ∀ (s : Shared) (v : Value), BindsTo s fd ⟨[v], []⟩ (ps.zip [v])) (hfa : mg x = some (.ref fa)) :
    ∃ fd : FuncData, (∀ (s : Shared) (v : Value), BindsTo s fd ⟨[v], []⟩ (ps.zip [v])) ∧ ∀ base : Heap, K.In base → base.Ns mainGlobals mg → FnOk P w K mg base CX k fa fd ps sp := by
  obtain ⟨f, fd, g, ⟨oc, od, osl, lk⟩, hb⟩ := D
  have e := hfa.symm.trans g
  cases e
  refine ⟨fd, hb, fun base _ _ => ?_⟩
  obtain ⟨f', fd', g', _, _, ⟨oc', od', osl', lk'⟩, ok⟩ := h base
  have e := g.symm.trans g'
  cases e
  rw [lk] at lk'
  cases lk'
  exact ok
/-- a def that is not called -/
theorem Def.never (D : Def K mg x qual st ps) : Has P w K mg base CX k x ps (fun _ _ _ _ => False) := by
  obtain ⟨f, fd, g, F, b⟩ := D
  exact ⟨f, fd, g, F.kp, b, fun_look F, ⟨fun _ _ _ _ h => h.elim, fun _ _ _ _ _ _ _ _ _ _ _ _ _ h => h.elim⟩⟩
theorem Has.mono {j : Nat} (h : Has P w K mg base CX j x ps sp) (l : j ≤ k) : Has P w K mg base CX k x ps sp := by
  obtain ⟨f, fd, g, kp, b, lk, F⟩ := h
  exact ⟨f, fd, g, kp, b, lk, F.mono l⟩
theorem Has.imp {sp' : Sp} (h : Has P w K mg base CX k x ps sp) (i : ∀ vs H Q E, sp' vs H Q E → sp vs H Q E) : Has P w K mg base CX k x ps sp' := by
  obtain ⟨f, fd, g, kp, b, lk, F⟩ := h
  exact ⟨f, fd, g, kp, b, lk, F.imp i⟩
end
/-- xs[i], for op= -/
theorem get_list {X : Cx} : PGet X (rIxL X.K) := by
  intro pins s σ H o i ov iv Q I ro ri h
  obtain ⟨p, xs, j, z, rfl, rfl, hq, he, q⟩ := h
  cases ro
  obtain ⟨t, rfl⟩ := ri
  obtain ⟨its, r, pl, hz⟩ := I.list hq
  obtain ⟨n, h1, h2, h3, h4, h5⟩ := atI_get he
  obtain ⟨w, ew, rw'⟩ := r.get h2
  have hl := r.length
  have hn := line63
  have fin : EP X pins σ Q w s := ⟨z, H, I, rw', q⟩
  by_cases h0 : 0 ≤ j
  · have hj : j.toNat = n := by
      rw [seqIndex_of h0 h5] at h1
      exact Option.some.inj h1
    exact wpAny_getItem_list pl.isList h0 (by omega) (by rw [hj]; simpa using ew) fin
  · have hj : (j + (its.toArray.size : Int)).toNat = n := by
      rw [seqIndex_neg (by omega) h4] at h1
      rw [List.size_toArray, ← hl]
      exact Option.some.inj h1
    exact wpAny_getItem_list_neg pl.isList (by omega) (by rw [List.size_toArray] <;> omega) (by omega) (by rw [hj]; simpa using ew) fin
/-- a module's constant -/
def Glob (mg : Str → Option Value) (x : Str) (v : V) : Prop := ∃ u, mg x = some u ∧ RelV v u
theorem pe_globE {X : Cx} {x : Str} {v : V} {pos : Pos} (hg : Gl X x) (h : Glob X.mg x v) (hd : (x == ("__debug__" : Str)) = false := by decide) : PE X (.Name x pos) (tC v) := by
  obtain ⟨u, hm, r⟩ := h
  exact pe_glob hg hm r hd
def GlobT (K : PySem.W.Frag) (mg : Str → Option Value) (x : Str) (vs : List V) : Prop :=
  ∃ a, mg x = some (.ref a) ∧ ∃ (o : Obj) (its : Array Value) (n : Nat), K.lookup a = some o ∧ o.cls = .type "tuple" ∧ o.data = .seq its n ∧ its.size ≤ sizeLine ∧ Vals vs its.toList
end Rw
namespace Fld
end Fld
namespace Lw
end Lw
/-! ### Am: an abstract machine of values: data by what they hold, a store of cells that may change -/
namespace Am
open PySem PySem.Spec PyProof.Rows L2
/-- data: what is never changed any more -/
inductive D where
  | non | bl (b : Bool) | int (i : Int) | str (x : Str) | fn (x : Str)
  | list (xs : List D) | scr (xs : List D) | tup (xs : List D) | kt (xs : List D)
  | dK (kvs : List (Key × D)) | dT (kvs : List (List Key × D))
  | ins (c : Str) (fs : List (Str × D))
/-- a value: data, or a cell of the store -/
inductive A where
  | d (x : D) | c (i : Nat)
/-- what a cell holds -/
inductive Cell where
  | lst (xs : List A) | dK (kvs : List (Key × A)) | dT (kvs : List (List Key × A)) | ins (c : Str) (fs : List (Str × A))
  | fz (x : D)
abbrev Store := List Cell
abbrev Slots := List (Option A)
/-- an exception of an own class -/
structure Exn where
  cls : Str
  fs : Option (List (Str × D))
inductive Res (α : Type) where
  | ok (a : α) (st : Store) | ex (x : Exn) (st : Store) | no
inductive Out where
  | nx (σ : Slots) (st : Store) | rt (a : A) (st : Store) | bk (σ : Slots) (st : Store) | ct (σ : Slots) (st : Store) | ex (x : Exn) (σ : Slots) (st : Store) | no
abbrev ME := Slots → Store → Res A
abbrev MT := Slots → Store → Res Bool
abbrev MA := Slots → Store → Res (List A)
abbrev MS := Slots → Store → Out
abbrev MF := List A → Store → Res A
/-- a test that is not reckoned -/
noncomputable def ifc {α : Sort _} (p : Prop) (a b : α) : α := @ite α p (Classical.propDecidable p) a b
theorem ifc_pos {α : Sort _} {p : Prop} {a b : α} (h : p) : ifc p a b = a := by unfold ifc; exact if_pos h
theorem ifc_neg {α : Sort _} {p : Prop} {a b : α} (h : ¬ p) : ifc p a b = b := by unfold ifc; exact if_neg h
def Res.bind {α β : Type} : Res α → (α → Store → Res β) → Res β
  | .ok a st, k => k a st
  | .ex x st, _ => .ex x st
  | .no, _ => .no

structure Ctx where
  K : PySem.W.Frag
  mg : Str → Option Value
structure Wd where
  G : Hp
  E : Nat → Addr

/-! ### data in a heap -/
def KD {κ β γ : Type} (R : β → γ → Prop) : κ × β → κ × γ → Prop := fun p q => p.1 = q.1 ∧ R p.2 q.2
section
variable (c : Ctx) (G : Hp)
mutual
def DR : D → V → Prop
  | .non, v => v = .non
  | .bl b, v => v = .bl b
  | .int i, v => v = .int i
  | .str x, v => v = .str x
  | .fn x, v => ∃ f, c.mg x = some (.ref f) ∧ v = .ref f
  | .list ds, v => ∃ a vs, v = .ref a ∧ G a = some (.lst vs) ∧ DRs ds vs
  | .scr ds, v => ∃ a vs, v = .ref a ∧ SqL c.K G a vs ∧ DRs ds vs
  | .tup ds, v => ∃ a vs, v = .ref a ∧ G a = some (.tup vs) ∧ DRs ds vs
  | .kt ds, v => ∃ a vs, v = .ref a ∧ SqT c.K G a vs ∧ DRs ds vs
  | .dK ds, v => ∃ a us, v = .ref a ∧ G a = some (.dK us) ∧ DRk ds us
  | .dT ds, v => ∃ a us, v = .ref a ∧ G a = some (.dT us) ∧ DRt ds us
  | .ins x ds, v => ∃ a C dx us, v = .ref a ∧ G a = some (.ins C dx us) ∧ c.mg x = some (.ref C) ∧ DRf ds us
def DRs : List D → List V → Prop
  | [], vs => vs = []
  | d :: ds, vs => ∃ v r, vs = v :: r ∧ DR d v ∧ DRs ds r
def DRk : List (Key × D) → List (Key × V) → Prop
  | [], vs => vs = []
  | (k, d) :: ds, vs => ∃ v r, vs = (k, v) :: r ∧ DR d v ∧ DRk ds r
def DRt : List (List Key × D) → List (List Key × V) → Prop
  | [], vs => vs = []
  | (k, d) :: ds, vs => ∃ v r, vs = (k, v) :: r ∧ DR d v ∧ DRt ds r
def DRf : List (Str × D) → List (Str × V) → Prop
  | [], vs => vs = []
  | (k, d) :: ds, vs => ∃ v r, vs = (k, v) :: r ∧ DR d v ∧ DRf ds r
end
end
theorem same_rd {H H' : Hp} {a : Addr} {o : HO} (e : Same H H') (h : Rd H a o) : Rd H' a o := by
  rcases h with h | ⟨u, h⟩
  · exact .inl (e _ _ h)
  · exact .inr ⟨u, e _ _ h⟩
theorem same_t {K : PySem.W.Frag} {H H' : Hp} {a : Addr} {xs : List V} (e : Same H H') (h : SqT K H a xs) : SqT K H' a xs := by
  rcases h with h | h
  · exact .inl (same_rd e h)
  · exact .inr h
section
variable {c : Ctx} {G G' : Hp}
mutual
theorem DR.same (e : Same G G') : ∀ {d : D} {v : V}, DR c G d v → DR c G' d v
  | .non, _, h => h
  | .bl _, _, h => h
  | .int _, _, h => h
  | .str _, _, h => h
  | .fn _, _, h => h
  | .list _, _, ⟨a, vs, h1, h2, h3⟩ => ⟨a, vs, h1, e _ _ h2, DRs.same e h3⟩
  | .scr _, _, ⟨a, vs, h1, h2, h3⟩ => ⟨a, vs, h1, e.seq h2, DRs.same e h3⟩
  | .tup _, _, ⟨a, vs, h1, h2, h3⟩ => ⟨a, vs, h1, e _ _ h2, DRs.same e h3⟩
  | .kt _, _, ⟨a, vs, h1, h2, h3⟩ => ⟨a, vs, h1, same_t e h2, DRs.same e h3⟩
  | .dK _, _, ⟨a, vs, h1, h2, h3⟩ => ⟨a, vs, h1, e _ _ h2, DRk.same e h3⟩
  | .dT _, _, ⟨a, vs, h1, h2, h3⟩ => ⟨a, vs, h1, e _ _ h2, DRt.same e h3⟩
  | .ins _ _, _, ⟨a, C, dx, us, h1, h2, h3, h4⟩ => ⟨a, C, dx, us, h1, e _ _ h2, h3, DRf.same e h4⟩
theorem DRs.same (e : Same G G') : ∀ {ds : List D} {vs : List V}, DRs c G ds vs → DRs c G' ds vs
  | [], _, h => h
  | _ :: _, _, ⟨v, r, h1, h2, h3⟩ => ⟨v, r, h1, DR.same e h2, DRs.same e h3⟩
theorem DRk.same (e : Same G G') : ∀ {ds : List (Key × D)} {vs : List (Key × V)}, DRk c G ds vs → DRk c G' ds vs
  | [], _, h => h
  | (_, _) :: _, _, ⟨v, r, h1, h2, h3⟩ => ⟨v, r, h1, DR.same e h2, DRk.same e h3⟩
theorem DRt.same (e : Same G G') : ∀ {ds : List (List Key × D)} {vs : List (List Key × V)}, DRt c G ds vs → DRt c G' ds vs
  | [], _, h => h
  | (_, _) :: _, _, ⟨v, r, h1, h2, h3⟩ => ⟨v, r, h1, DR.same e h2, DRt.same e h3⟩
theorem DRf.same (e : Same G G') : ∀ {ds : List (Str × D)} {vs : List (Str × V)}, DRf c G ds vs → DRf c G' ds vs
  | [], _, h => h
  | (_, _) :: _, _, ⟨v, r, h1, h2, h3⟩ => ⟨v, r, h1, DR.same e h2, DRf.same e h3⟩
end
theorem DRs.pair : ∀ {ds : List D} {vs : List V}, DRs c G ds vs → Paired (fun v d => DR c G d v) vs ds
  | [], _, h => by cases h; exact .nil
  | _ :: _, _, ⟨v, r, h1, h2, h3⟩ => by cases h1; exact .cons h2 h3.pair
theorem DRs.of : ∀ {ds : List D} {vs : List V}, Paired (fun v d => DR c G d v) vs ds → DRs c G ds vs
  | _, _, .nil => rfl
  | _, _, .cons h t => ⟨_, _, rfl, h, DRs.of t⟩
theorem DRk.pair : ∀ {ds : List (Key × D)} {vs : List (Key × V)}, DRk c G ds vs → Paired (KD fun v d => DR c G d v) vs ds
  | [], _, h => by cases h; exact .nil
  | (_, _) :: _, _, ⟨v, r, h1, h2, h3⟩ => by cases h1; exact .cons ⟨rfl, h2⟩ h3.pair
theorem DRk.of : ∀ {ds : List (Key × D)} {vs : List (Key × V)}, Paired (KD fun v d => DR c G d v) vs ds → DRk c G ds vs
  | _, _, .nil => rfl
  | _, _, .cons (a := (_, _)) (b := (_, _)) ⟨e, h⟩ t => by cases e; exact ⟨_, _, rfl, h, DRk.of t⟩
theorem DRt.pair : ∀ {ds : List (List Key × D)} {vs : List (List Key × V)}, DRt c G ds vs → Paired (KD fun v d => DR c G d v) vs ds
  | [], _, h => by cases h; exact .nil
  | (_, _) :: _, _, ⟨v, r, h1, h2, h3⟩ => by cases h1; exact .cons ⟨rfl, h2⟩ h3.pair
theorem DRt.of : ∀ {ds : List (List Key × D)} {vs : List (List Key × V)}, Paired (KD fun v d => DR c G d v) vs ds → DRt c G ds vs
  | _, _, .nil => rfl
  | _, _, .cons (a := (_, _)) (b := (_, _)) ⟨e, h⟩ t => by cases e; exact ⟨_, _, rfl, h, DRt.of t⟩
theorem DRf.pair : ∀ {ds : List (Str × D)} {vs : List (Str × V)}, DRf c G ds vs → Paired (KD fun v d => DR c G d v) vs ds
  | [], _, h => by cases h; exact .nil
  | (_, _) :: _, _, ⟨v, r, h1, h2, h3⟩ => by cases h1; exact .cons ⟨rfl, h2⟩ h3.pair
theorem DRf.of : ∀ {ds : List (Str × D)} {vs : List (Str × V)}, Paired (KD fun v d => DR c G d v) vs ds → DRf c G ds vs
  | _, _, .nil => rfl
  | _, _, .cons (a := (_, _)) (b := (_, _)) ⟨e, h⟩ t => by cases e; exact ⟨_, _, rfl, h, DRf.of t⟩
end

/-! ### pairs -/
section
variable {α β γ : Type} {F G : α → β → Prop}
theorem paired_get : ∀ {l₁ : List α} {l₂ : List β} {i : Nat} {b : β}, Paired F l₁ l₂ → l₂[i]? = some b → ∃ a, l₁[i]? = some a ∧ F a b
  | _, _, _, _, .nil, e => by simp at e
  | _, _, 0, _, .cons r _, e => by simp at e; subst e; exact ⟨_, rfl, r⟩
  | _, _, i + 1, _, .cons _ t, e => by simpa using paired_get (i := i) t (by simpa using e)
theorem paired_getL : ∀ {l₁ : List α} {l₂ : List β} {i : Nat} {a : α}, Paired F l₁ l₂ → l₁[i]? = some a → ∃ b, l₂[i]? = some b ∧ F a b
  | _, _, _, _, .nil, e => by simp at e
  | _, _, 0, _, .cons r _, e => by simp at e; subst e; exact ⟨_, rfl, r⟩
  | _, _, i + 1, _, .cons _ t, e => by simpa using paired_getL (i := i) t (by simpa using e)
theorem paired_append : ∀ {l₁ : List α} {l₂ : List β} {m₁ : List α} {m₂ : List β}, Paired F l₁ l₂ → Paired F m₁ m₂ → Paired F (l₁ ++ m₁) (l₂ ++ m₂)
  | _, _, _, _, .nil, h => h
  | _, _, _, _, .cons r t, h => .cons r (paired_append t h)
theorem paired_take : ∀ (n : Nat) {l₁ : List α} {l₂ : List β}, Paired F l₁ l₂ → Paired F (l₁.take n) (l₂.take n)
  | 0, _, _, _ => by rw [List.take_zero, List.take_zero]; exact .nil
  | _ + 1, _, _, .nil => .nil
  | n + 1, _, _, .cons r t => .cons r (paired_take n t)
theorem paired_drop : ∀ (n : Nat) {l₁ : List α} {l₂ : List β}, Paired F l₁ l₂ → Paired F (l₁.drop n) (l₂.drop n)
  | 0, _, _, h => h
  | _ + 1, _, _, .nil => .nil
  | n + 1, _, _, .cons _ t => paired_drop n t
theorem paired_set {a : α} {b : β} (r : F a b) : ∀ (n : Nat) {l₁ : List α} {l₂ : List β}, Paired F l₁ l₂ → Paired F (l₁.set n a) (l₂.set n b)
  | _, _, _, .nil => .nil
  | 0, _, _, .cons _ t => .cons r t
  | n + 1, _, _, .cons q t => .cons q (paired_set r n t)
theorem paired_imp : ∀ {l₁ : List α} {l₂ : List β}, Paired F l₁ l₂ → (∀ a b, F a b → G a b) → Paired G l₁ l₂
  | _, _, .nil, _ => .nil
  | _, _, .cons r t, f => .cons (f _ _ r) (paired_imp t f)
theorem paired_map {δ : Type} {F : α → δ → Prop} (f : β → δ) : ∀ {l₁ : List α} {l₂ : List β}, Paired (fun a b => F a (f b)) l₁ l₂ → Paired F l₁ (l₂.map f)
  | _, _, .nil => .nil
  | _, _, .cons r t => .cons r (paired_map f t)
theorem paired_unmap {δ : Type} {F : α → δ → Prop} (f : β → δ) : ∀ {l₁ : List α} {l₂ : List β}, Paired F l₁ (l₂.map f) → Paired (fun a b => F a (f b)) l₁ l₂
  | _, [], h => by cases h; exact .nil
  | _, _ :: _, h => by cases h with | cons r t => exact .cons r (paired_unmap f t)
theorem paired_reverse {l₁ : List α} {l₂ : List β} (h : Paired F l₁ l₂) : Paired F l₁.reverse l₂.reverse := by
  induction h with
  | nil => exact .nil
  | cons r _ ih => rw [List.reverse_cons, List.reverse_cons]; exact paired_append ih (.cons r .nil)
end

/-! ### the state -/
def RA (c : Ctx) (w : Wd) (n : Nat) (v : V) : A → Prop
  | .d x => DR c w.G x v
  | .c i => i < n ∧ v = .ref (w.E i)
def CR (c : Ctx) (w : Wd) (n : Nat) (H : Hp) (a : Addr) : Cell → Prop
  | .lst xs => w.G a = none ∧ ∃ vs, H a = some (.lst vs) ∧ Paired (RA c w n) vs xs
  | .dK xs => w.G a = none ∧ ∃ us, H a = some (.dK us) ∧ Paired (KD (RA c w n)) us xs
  | .dT xs => w.G a = none ∧ ∃ us, H a = some (.dT us) ∧ Paired (KD (RA c w n)) us xs
  | .ins x fs => w.G a = none ∧ ∃ C dx us, H a = some (.ins C dx us) ∧ c.mg x = some (.ref C) ∧ Paired (KD (RA c w n)) us fs
  | .fz x => DR c w.G x (.ref a) ∧ H a ≠ none
structure RelS (c : Ctx) (w : Wd) (st : Store) (H : Hp) : Prop where
  same : Same w.G H
  inj : ∀ i j, i < st.length → j < st.length → w.E i = w.E j → i = j
  cell : ∀ i x, st[i]? = some x → CR c w st.length H (w.E i) x
structure Rel (c : Ctx) (w : Wd) (σa : Slots) (st : Store) (σ : L2.St) (H : Hp) : Prop where
  rs : RelS c w st H
  len : σ.length = σa.length
  sl : ∀ (i : Nat) (a : A), σa[i]? = some (some a) → ∃ v, σ[i]? = some (some v) ∧ RA c w st.length v a
structure Ext (w : Wd) (n : Nat) (w' : Wd) (n' : Nat) : Prop where
  same : Same w.G w'.G
  cells : ∀ i, i < n → w'.E i = w.E i
  le : n ≤ n'
theorem Ext.refl (w : Wd) (n : Nat) : Ext w n w n := ⟨.refl _, fun _ _ => rfl, Nat.le_refl _⟩
theorem Ext.trans {w w1 w2 : Wd} {n n1 n2 : Nat} (a : Ext w n w1 n1) (b : Ext w1 n1 w2 n2) : Ext w n w2 n2 :=
  ⟨a.same.trans b.same, fun i h => (b.cells i (Nat.lt_of_lt_of_le h a.le)).trans (a.cells i h), Nat.le_trans a.le b.le⟩
section
variable {c : Ctx} {w w' : Wd} {n n' : Nat} {H H' : Hp} {st : Store} {σa : Slots} {σ : L2.St}
theorem RA.ext {v : V} (e : Ext w n w' n') : ∀ {a : A}, RA c w n v a → RA c w' n' v a
  | .d _, h => DR.same e.same h
  | .c i, ⟨h1, h2⟩ => ⟨Nat.lt_of_lt_of_le h1 e.le, by rw [e.cells i h1]; exact h2⟩
theorem ras_ext {vs : List V} {as : List A} (e : Ext w n w' n') (h : Paired (RA c w n) vs as) : Paired (RA c w' n') vs as := paired_imp h fun _ _ => RA.ext e
theorem kas_ext {κ : Type} {vs : List (κ × V)} {as : List (κ × A)} (e : Ext w n w' n') (h : Paired (KD (RA c w n)) vs as) : Paired (KD (RA c w' n')) vs as := paired_imp h fun _ _ q => ⟨q.1, RA.ext e q.2⟩
/-- a cell's object is tracked -/
theorem CR.there {a : Addr} (sm : Same w.G H) : ∀ {x : Cell}, CR c w n H a x → H a ≠ none
  | .lst _, ⟨_, _, h, _⟩ => by rw [h]; exact fun z => nomatch z
  | .dK _, ⟨_, _, h, _⟩ => by rw [h]; exact fun z => nomatch z
  | .dT _, ⟨_, _, h, _⟩ => by rw [h]; exact fun z => nomatch z
  | .ins _ _, ⟨_, _, _, _, h, _⟩ => by rw [h]; exact fun z => nomatch z
  | .fz _, ⟨_, h⟩ => h
/-- a cell stays: its object does, the ghost grows elsewhere -/
theorem CR.stay {a : Addr} (e : Ext w n w' n') (hG : w.G a = none → w'.G a = none) (hH : H' a = H a) : ∀ {x : Cell}, CR c w n H a x → CR c w' n' H' a x
  | .lst _, ⟨g, vs, h, p⟩ => ⟨hG g, vs, by rw [hH]; exact h, ras_ext e p⟩
  | .dK _, ⟨g, vs, h, p⟩ => ⟨hG g, vs, by rw [hH]; exact h, kas_ext e p⟩
  | .dT _, ⟨g, vs, h, p⟩ => ⟨hG g, vs, by rw [hH]; exact h, kas_ext e p⟩
  | .ins _ _, ⟨g, C, dx, us, h, m, p⟩ => ⟨hG g, C, dx, us, by rw [hH]; exact h, m, kas_ext e p⟩
  | .fz _, ⟨h, t⟩ => ⟨DR.same e.same h, by rw [hH]; exact t⟩
theorem RelS.ne (r : RelS c w st H) {i : Nat} {x : Cell} {p : Addr} (h : st[i]? = some x) (hp : H p = none) : w.E i ≠ p := fun z => by
  have := (r.cell i x h).there r.same
  rw [z] at this
  exact this hp
theorem RelS.lt {i : Nat} {x : Cell} (h : st[i]? = some x) : i < st.length := (List.getElem?_eq_some_iff.mp h).1
theorem RelS.get {i : Nat} (h : i < st.length) : ∃ x, st[i]? = some x := ⟨_, List.getElem?_eq_getElem h⟩
/-- new data at p -/
def Wd.put (w : Wd) (p : Addr) (o : HO) : Wd := ⟨upd w.G p o, w.E⟩
theorem same_upd {G : Hp} {p : Addr} {o : HO} (h : G p = none) : Same G (upd G p o) := fun b x e => by
  rw [upd_ne (ne_of_none e h)]
  exact e
theorem same_upd2 {G H : Hp} {p : Addr} {o : HO} (s : Same G H) : Same (upd G p o) (upd H p o) := fun b x e => by
  by_cases hb : b = p
  · subst hb; rw [upd_same] at e ⊢; exact e
  · rw [upd_ne hb] at e ⊢; exact s b x e
theorem Wd.put_ext (w : Wd) {p : Addr} {o : HO} {n : Nat} (h : w.G p = none) : Ext w n (w.put p o) n := ⟨same_upd h, fun _ _ => rfl, Nat.le_refl _⟩
theorem RelS.put (r : RelS c w st H) {p : Addr} {o : HO} (hp : H p = none) : RelS c (w.put p o) st (upd H p o) where
  same := same_upd2 r.same
  inj := r.inj
  cell := fun i x h => by
    have ne := r.ne h hp
    exact (r.cell i x h).stay (w.put_ext (r.same.free hp)) (fun g => by show upd w.G p o (w.E i) = none; rw [upd_ne ne]; exact g) (upd_ne ne)
/-- a new cell at p -/
def Wd.cell (w : Wd) (n : Nat) (p : Addr) : Wd := ⟨w.G, fun i => if i = n then p else w.E i⟩
theorem Wd.cell_at (w : Wd) (n : Nat) (p : Addr) : (w.cell n p).E n = p := if_pos rfl
theorem Wd.cell_old (w : Wd) {n i : Nat} {p : Addr} (h : i < n) : (w.cell n p).E i = w.E i := if_neg (Nat.ne_of_lt h)
theorem Wd.cell_ext (w : Wd) (n : Nat) (p : Addr) : Ext w n (w.cell n p) (n + 1) := ⟨.refl _, fun _ h => w.cell_old h, Nat.le_succ _⟩
theorem RelS.push (r : RelS c w st H) {p : Addr} {o : HO} {x : Cell} (hp : H p = none) (hx : CR c (w.cell st.length p) (st.length + 1) (upd H p o) p x) : RelS c (w.cell st.length p) (st ++ [x]) (upd H p o) where
  same := fun b y e => by
    have e : w.G b = some y := e
    rw [upd_ne fun z => by rw [z, r.same.free hp] at e; cases e]
    exact r.same b y e
  inj := fun i j hi hj e => by
    rw [List.length_append, List.length_singleton] at hi hj
    by_cases h1 : i = st.length
    · by_cases h2 : j = st.length
      · rw [h1, h2]
      · subst h1
        rw [w.cell_at, w.cell_old (by omega)] at e
        obtain ⟨y, hy⟩ := RelS.get (st := st) (i := j) (by omega)
        exact absurd e.symm (r.ne hy hp)
    · by_cases h2 : j = st.length
      · subst h2
        rw [w.cell_at, w.cell_old (by omega)] at e
        obtain ⟨y, hy⟩ := RelS.get (st := st) (i := i) (by omega)
        exact absurd e (r.ne hy hp)
      · rw [w.cell_old (by omega), w.cell_old (by omega)] at e
        exact r.inj i j (by omega) (by omega) e
  cell := fun i y h => by
    rw [List.length_append, List.length_singleton]
    by_cases hi : i < st.length
    · rw [List.getElem?_append_left hi] at h
      rw [w.cell_old hi]
      exact (r.cell i y h).stay (w.cell_ext _ _) (fun g => g) (upd_ne (r.ne h hp))
    · have hl := RelS.lt h
      rw [List.length_append, List.length_singleton] at hl
      have : i = st.length := by omega
      subst this
      rw [List.getElem?_append_right (Nat.le_refl _), Nat.sub_self] at h
      cases h
      rw [w.cell_at]
      exact hx
/-- a cell is written -/
theorem RelS.write (r : RelS c w st H) {i : Nat} {x y : Cell} {o : HO} (h : st[i]? = some x) (g : w.G (w.E i) = none) (hy : CR c w st.length (upd H (w.E i) o) (w.E i) y) : RelS c w (st.set i y) (upd H (w.E i) o) where
  same := fun b z e => by
    rw [upd_ne fun q => by rw [q, g] at e; cases e]
    exact r.same b z e
  inj := fun j k hj hk => by
    rw [List.length_set] at hj hk
    exact r.inj j k hj hk
  cell := fun j z hz => by
    rw [List.length_set]
    by_cases e : j = i
    · subst e
      rw [List.getElem?_set_self (RelS.lt h)] at hz
      cases hz
      exact hy
    · rw [List.getElem?_set_ne (Ne.symm e)] at hz
      exact (r.cell j z hz).stay (Ext.refl _ _) (fun g => g) (upd_ne fun q => e (r.inj j i (RelS.lt hz) (RelS.lt h) q))
theorem Rel.put (r : Rel c w σa st σ H) {p : Addr} {o : HO} (hp : H p = none) : Rel c (w.put p o) σa st σ (upd H p o) :=
  ⟨r.rs.put hp, r.len, fun i a h => let ⟨v, e, q⟩ := r.sl i a h; ⟨v, e, q.ext (w.put_ext (r.rs.same.free hp))⟩⟩
theorem Rel.push (r : Rel c w σa st σ H) {p : Addr} {o : HO} {x : Cell} (hp : H p = none) (hx : CR c (w.cell st.length p) (st.length + 1) (upd H p o) p x) : Rel c (w.cell st.length p) σa (st ++ [x]) σ (upd H p o) :=
  ⟨r.rs.push hp hx, r.len, fun i a h => let ⟨v, e, q⟩ := r.sl i a h; ⟨v, e, by rw [List.length_append]; exact q.ext (w.cell_ext _ _)⟩⟩
theorem Rel.write (r : Rel c w σa st σ H) {i : Nat} {x y : Cell} {o : HO} (h : st[i]? = some x) (g : w.G (w.E i) = none) (hy : CR c w st.length (upd H (w.E i) o) (w.E i) y) : Rel c w σa (st.set i y) σ (upd H (w.E i) o) :=
  ⟨r.rs.write h g hy, r.len, by rw [List.length_set]; exact r.sl⟩
theorem Rel.set (r : Rel c w σa st σ H) {i : Nat} {v : V} {a : A} (h : RA c w st.length v a) : Rel c w (σa.set i (some a)) st (σ.set i (some v)) H :=
  ⟨r.rs, by rw [List.length_set, List.length_set]; exact r.len, fun j b hb => by
    by_cases e : j = i
    · subst e
      by_cases hl : j < σa.length
      · rw [List.getElem?_set_self hl] at hb
        cases hb
        exact ⟨v, List.getElem?_set_self (by rw [r.len]; exact hl), h⟩
      · rw [List.getElem?_eq_none (by rw [List.length_set]; omega)] at hb
        cases hb
    · rw [List.getElem?_set_ne (Ne.symm e)] at hb
      obtain ⟨u, e1, q⟩ := r.sl j b hb
      exact ⟨u, by rw [List.getElem?_set_ne (Ne.symm e)]; exact e1, q⟩⟩
/-- a slot forgotten -/
theorem Rel.drop (r : Rel c w σa st σ H) {σb : Slots} (hl : σb.length = σa.length) (h : ∀ (i : Nat) (a : A), σb[i]? = some (some a) → σa[i]? = some (some a)) : Rel c w σb st σ H :=
  ⟨r.rs, by rw [r.len, hl], fun i a e => r.sl i a (h i a e)⟩
end
end Am
/-! ### Am: readings by the machine; expressions -/
namespace Am
open PySem PySem.Spec PyProof.Rows L2
section
variable {X : Cx} {e : Expr} {st : Stmt} {ss : List Stmt} {es : List Expr}
theorem pe_imp {t t' : TE} (h : PE X e t) (i : ∀ σ H Q, t' σ H Q → t σ H Q) : PE X e t' := ⟨fun pins s σ H Q I q => h.run pins s σ H Q I (i σ H Q q)⟩
theorem pt_imp {t t' : TT} (h : PT X e t) (i : ∀ σ H Q, t' σ H Q → t σ H Q) : PT X e t' := ⟨fun pins s σ H Q I q => h.run pins s σ H Q I (i σ H Q q)⟩
theorem pw_imp {t t' : TT} (h : PW X e t) (i : ∀ σ H Q, t' σ H Q → t σ H Q) : PW X e t' := ⟨fun wh pins s σ H Q I q => h.run wh pins s σ H Q I (i σ H Q q)⟩
theorem pa_imp {t t' : TA} (h : PA X es t) (i : ∀ σ H Q, t' σ H Q → t σ H Q) : PA X es t' := ⟨fun p pins s σ H Q I q => h.run p pins s σ H Q I (i σ H Q q)⟩
theorem ps_imp {t t' : TS} (h : PS X st t) (i : ∀ D σ H, t' D σ H → t D σ H) : PS X st t' := ⟨fun pins s σ H D I q => h.run pins s σ H D I (i D σ H q)⟩
theorem pss_imp {t t' : TS} (h : PSs X ss t) (i : ∀ D σ H, t' D σ H → t D σ H) : PSs X ss t' := ⟨fun pins s σ H D I q => h.run pins s σ H D I (i D σ H q)⟩
end
/-- how an exception lies -/
def RX (c : Ctx) (w : Wd) (x : Exn) (cls : Value) (d : Option Addr) : Prop :=
  ∃ C, cls = .ref C ∧ c.mg x.cls = some (.ref C) ∧ match x.fs with
    | none => d = none
    | some fs => ∃ a us, d = some a ∧ w.G a = some (.xd us) ∧ DRf c w.G fs us
def Post {α β : Type} (c : Ctx) (w : Wd) (n : Nat) (σa : Slots) (σ : L2.St) (R : Wd → Nat → β → α → Prop) (W : WX) (Q : β → Hp → Prop) : Res α → Prop
  | .ok a st => ∀ v w' H', Ext w n w' st.length → Rel c w' σa st σ H' → R w' st.length v a → Q v H'
  | .ex x st => ∀ cls d w' H', Ext w n w' st.length → Rel c w' σa st σ H' → RX c w' x cls d → W cls d σ H'
  | .no => False
section
variable {α β α' β' : Type} {c : Ctx} {w w1 : Wd} {n n1 : Nat} {σa : Slots} {st : Store} {σ : L2.St} {H : Hp} {W : WX}
theorem Post.mono {R : Wd → Nat → β → α → Prop} {Q : β → Hp → Prop} (e : Ext w n w1 n1) : ∀ {r : Res α}, Post c w n σa σ R W Q r → Post c w1 n1 σa σ R W Q r
  | .ok _ _, h => fun v w' H' e' => h v w' H' (e.trans e')
  | .ex _ _, h => fun v d w' H' e' => h v d w' H' (e.trans e')
  | .no, h => h
theorem Post.bind {R : Wd → Nat → β → α → Prop} {R' : Wd → Nat → β' → α' → Prop} {Q : β → Hp → Prop} {Q' : β' → Hp → Prop} {k : α' → Store → Res α} :
    ∀ {r : Res α'}, Post c w n σa σ R W Q (r.bind k) → (∀ v a st1 w1 H1, Ext w n w1 st1.length → Rel c w1 σa st1 σ H1 → R' w1 st1.length v a → Post c w1 st1.length σa σ R W Q (k a st1) → Q' v H1) → Post c w n σa σ R' W Q' r
  | .ok a st1, h, f => fun v w1 H1 e1 r1 ra => f v a st1 w1 H1 e1 r1 ra (Post.mono e1 h)
  | .ex _ _, h, _ => h
  | .no, h, _ => h
/-- nothing is changed -/
theorem Post.here {R : Wd → Nat → β → α → Prop} {Q : β → Hp → Prop} {a : α} {v : β} (h : Post c w st.length σa σ R W Q (.ok a st)) (r : Rel c w σa st σ H) (ra : R w st.length v a) : Q v H := h v w H (Ext.refl _ _) r ra
end
section
variable (c : Ctx) (W : WX)
def tM (f : ME) : TE := fun σ H Q => ∃ w σa st, Rel c w σa st σ H ∧ Post c w st.length σa σ (RA c) W Q (f σa st)
def tT (f : MT) : TT := fun σ H Q => ∃ w σa st, Rel c w σa st σ H ∧ Post c w st.length σa σ (fun _ _ b b' => b = b') W Q (f σa st)
def tMA (f : MA) : TA := fun σ H Q => ∃ w σa st, Rel c w σa st σ H ∧ Post c w st.length σa σ (fun w n => Paired (RA c w n)) W Q (f σa st)
end
/-- the module's facts are those of c -/
structure Fits (X : Cx) (c : Ctx) : Prop where
  K : X.K = c.K
  mg : X.mg = c.mg

/-! ### the machine's expressions -/
def mVar (i : Nat) : ME := fun σ st => match σ[i]? with
  | some (some a) => .ok a st
  | _ => .no
def mC (x : D) : ME := fun _ st => .ok (.d x) st
def mBin (g : A → A → Store → Res A) (fa fb : ME) : ME := fun σ st => (fa σ st).bind fun x st1 => (fb σ st1).bind fun y st2 => g x y st2
def mUn (g : A → Store → Res A) (fa : ME) : ME := fun σ st => (fa σ st).bind g
def mTst (f : ME) : MT := fun σ st => (f σ st).bind fun a st1 => match a with
  | .d (.bl b) => .ok b st1
  | _ => .no
def mNil : MA := fun _ st => .ok [] st
def mCons (fa : ME) (fr : MA) : MA := fun σ st => (fa σ st).bind fun x st1 => (fr σ st1).bind fun xs st2 => .ok (x :: xs) st2
section
variable {X : Cx} {c : Ctx} {W : WX} {a b e : Expr} {es rest : List Expr} {fa fb f : ME} {fr : MA} {pos : Pos}
theorem e_var {i : Nat} {x : Str} (hN : X.N[i]? = some x := by rfl) (hv : Vis X.env.scope x := by first | exact Or.inl rfl | exact Or.inr (Or.inl rfl) | exact Or.inr (Or.inr rfl)) (hd : (x == ("__debug__" : Str)) = false := by decide)
    (hcd : (x == ("__classdict__" : Str)) = false := by decide) : PE X (.Name x pos) (tM c W (mVar i)) :=
  pe_imp (pe_var hN hv hd hcd) fun σ H Q ⟨w, σa, st, r, p⟩ => by
    unfold mVar at p
    split at p
    · rename_i a h
      obtain ⟨v, e, ra⟩ := r.sl i a h
      exact ⟨v, e, p.here r ra⟩
    · exact p.elim
theorem e_c {v : V} {x : D} (h : PE X e (tC v)) (r : ∀ G, DR c G x v) : PE X e (tM c W (mC x)) := pe_imp h fun _ _ _ ⟨w, _, _, rl, p⟩ => p.here rl (r w.G)
theorem e_int {i j} : PE X (.Constant (.int i) j pos) (tM c W (mC (.int i))) := e_c (v := V.int i) pe_int fun _ => rfl
theorem e_bl {i j} : PE X (.Constant (.bool i) j pos) (tM c W (mC (.bl i))) := e_c (v := V.bl i) pe_bl fun _ => rfl
theorem e_str {i j} : PE X (.Constant (.str i) j pos) (tM c W (mC (.str i))) := e_c (v := V.str i) pe_str fun _ => rfl
theorem e_non {j} : PE X (.Constant .none j pos) (tM c W (mC .non)) := e_c (v := V.non) pe_non fun _ => rfl

/-! a two-place operation by values -/
def OpA (c : Ctx) (r : R2) (g : A → A → Store → Res A) : Prop := ∀ (w : Wd) (σa : Slots) (st : Store) (σ : L2.St) (H : Hp) (x y : A) (v u : V) (W : WX) (Q : VK),
  Rel c w σa st σ H → RA c w st.length v x → RA c w st.length u y → Post c w st.length σa σ (RA c) W Q (g x y st) → r v u H Q
theorem OpA.or1 {r r' : R2} {g : A → A → Store → Res A} (h : OpA c r g) : OpA c (fun x y H Q => r x y H Q ∨ r' x y H Q) g := fun w σa st σ H x y v u W Q rl rx ry p => .inl (h w σa st σ H x y v u W Q rl rx ry p)
def UnA (c : Ctx) (r : V → Hp → VK → Prop) (g : A → Store → Res A) : Prop := ∀ (w : Wd) (σa : Slots) (st : Store) (σ : L2.St) (H : Hp) (x : A) (v : V) (W : WX) (Q : VK),
  Rel c w σa st σ H → RA c w st.length v x → Post c w st.length σa σ (RA c) W Q (g x st) → r v H Q
theorem entail_op {r : R2} {g : A → A → Store → Res A} (hg : OpA c r g) (σ : L2.St) (H : Hp) (Q : VK) : tM c W (mBin g fa fb) σ H Q → tOp r (tM c W fa) (tM c W fb) σ H Q := fun ⟨w, σa, st, rl, p⟩ =>
  ⟨w, σa, st, rl, p.bind fun v x st1 w1 H1 _ rl1 rx p1 => ⟨w1, σa, st1, rl1, p1.bind fun u y st2 w2 H2 e2 rl2 ry p2 => hg w2 σa st2 σ H2 x y v u W Q rl2 (rx.ext e2) ry p2⟩⟩
theorem entail_un {r : V → Hp → VK → Prop} {g : A → Store → Res A} (hg : UnA c r g) (σ : L2.St) (H : Hp) (Q : VK) : tM c W (mUn g fa) σ H Q → tUn r (tM c W fa) σ H Q := fun ⟨w, σa, st, rl, p⟩ =>
  ⟨w, σa, st, rl, p.bind fun v x st1 w1 H1 _ rl1 rx p1 => hg w1 σa st1 σ H1 x v W Q rl1 rx p1⟩
theorem entail_tst {Q : Bool → Hp → Prop} {σ : L2.St} {H : Hp} : tT c W (mTst f) σ H Q → tM c W f σ H fun x H' => ∃ k, x = .bl k ∧ Q k H' := fun ⟨w, σa, st, rl, p⟩ =>
  ⟨w, σa, st, rl, p.bind fun v x st1 w1 H1 _ rl1 rx p1 => by
    split at p1
    · exact ⟨_, rx, p1.here rl1 rfl⟩
    · exact p1.elim⟩
theorem e_bin {op : Operator} {r : R2} {g : A → A → Store → Res A} (ho : OpR X (binaryOp op) r) (hg : OpA c r g) (ha : PE X a (tM c W fa)) (hb : PE X b (tM c W fb)) : PE X (.BinOp a op b pos) (tM c W (mBin g fa fb)) :=
  pe_imp (pe_op ho ha hb) (entail_op hg)
theorem e_un {op : UnaryOp} {r : V → Hp → VK → Prop} {g : A → Store → Res A} (ho : UnR X (unaryOp op) r) (hg : UnA c r g) (ha : PE X a (tM c W fa)) : PE X (.UnaryOp op a pos) (tM c W (mUn g fa)) :=
  pe_imp (pe_un ho ha) (entail_un hg)
theorem e_cmp {op : CmpOp} {r : R2} {g : A → A → Store → Res A} (ho : OpR X (compareOp op) r) (hg : OpA c r g) (ha : PE X a (tM c W fa)) (hb : PE X b (tM c W fb)) (hm : behindInMarks op b = false := by rfl) :
    PE X (.Compare a [op] [b] pos) (tM c W (mBin g fa fb)) := pe_imp (pe_cmpR ho ha hb hm) (entail_op hg)
theorem t_cmp {op : CmpOp} {r : R2} {g : A → A → Store → Res A} (ho : OpR X (compareOp op) r) (hg : OpA c r g) (ha : PE X a (tM c W fa)) (hb : PE X b (tM c W fb)) (hm : behindInMarks op b = false := by rfl) :
    PT X (.Compare a [op] [b] pos) (tT c W (mTst (mBin g fa fb))) := pt_imp (pt_cmpR ho ha hb hm) fun _ _ _ h => entail_op hg _ _ _ (entail_tst h)
/-- an expression as a test, by its value's truth -/
theorem t_val (h : PE X e (tM c W f)) (he : ∀ whole, isTrue e X.env whole = (do let v ← whole; standAt e.pos; holding [v] (truthy v)) := by intro _; rfl) : PT X e (tT c W (mTst f)) :=
  pt_imp (pt_val h he) fun _ _ _ h => entail_tst h
/-! argument lists -/
theorem a_nil : PA X [] (tMA c W mNil) := pa_imp pa_nil fun _ _ _ ⟨_, _, _, rl, p⟩ => p.here rl .nil
theorem a_cons (ha : PE X e (tM c W fa)) (hr : PA X es (tMA c W fr)) (hs : starEach (e :: es) X.env = (false, eval e X.env) :: starEach es X.env := by rfl) : PA X (e :: es) (tMA c W (mCons fa fr)) :=
  pa_imp (pa_cons ha hr hs) fun σ H Q ⟨w, σa, st, rl, p⟩ => ⟨w, σa, st, rl, p.bind fun v x st1 w1 H1 _ rl1 rx p1 => ⟨w1, σa, st1, rl1, p1.bind fun vs xs st2 w2 H2 e2 rl2 rxs p2 => p2.here rl2 (.cons (rx.ext e2) rxs)⟩⟩
end

/-! ### lists -/
def SZ : Nat := 16000000
theorem SZ_le {n : Nat} (h : n ≤ SZ) : n ≤ sizeLine := Nat.le_trans h (by decide)
theorem SZ_lt {n : Nat} (h : n ≤ SZ) : n < sizeLine := Nat.lt_of_le_of_lt h (by decide)
def allD : List A → Option (List D)
  | [] => some []
  | .d x :: r => (allD r).map (x :: ·)
  | .c _ :: _ => none
theorem allD_map : ∀ (xs : List D), allD (xs.map A.d) = some xs
  | [] => rfl
  | x :: xs => by rw [List.map_cons, allD, allD_map xs]; rfl
theorem allD_eq : ∀ {xs : List A} {ds : List D}, allD xs = some ds → xs = ds.map A.d
  | [], _, h => by cases h; rfl
  | .d x :: r, ds, h => by
    rw [allD] at h
    obtain ⟨r', h1, rfl⟩ := Option.map_eq_some_iff.mp h
    rw [allD_eq h1]; rfl
  | .c _ :: _, _, h => by cases h
/-- the items of a list; of a list or a tuple -/
def viewL (st : Store) : A → Option (List A)
  | .d (.list ds) => some (ds.map .d)
  | .c i => match st[i]? with
    | some (.lst xs) => some xs
    | some (.fz (.list ds)) => some (ds.map .d)
    | _ => none
  | _ => none
def viewS (st : Store) : A → Option (List A)
  | .d (.scr ds) => some (ds.map .d)
  | x => viewL st x
def viewT : A → Option (List D)
  | .d (.tup ds) => some ds
  | .d (.kt ds) => some ds
  | _ => none
/-- a new list: a cell if k, data if not -/
noncomputable def mkL (k : Bool) (xs : List A) (st : Store) : Res A :=
  ifc (xs.length ≤ SZ) (if k then .ok (.c st.length) (st ++ [.lst xs]) else match allD xs with
      | some ds => .ok (.d (.list ds)) st
      | none => .no) .no
noncomputable def mkT (xs : List A) (st : Store) : Res A :=
  ifc (xs.length ≤ SZ) (match allD xs with
    | some ds => .ok (.d (.tup ds)) st
    | none => .no) .no
section
variable {c : Ctx} {w : Wd} {n : Nat} {σa : Slots} {st : Store} {σ : L2.St} {H : Hp} {W : WX}
theorem DR.rd {a : Addr} {vs : List V} (sm : Same w.G H) (h : w.G a = some (.lst vs)) : H a = some (.lst vs) := sm _ _ h
theorem ras_d {vs : List V} {ds : List D} (h : DRs c w.G ds vs) : Paired (RA c w n) vs (ds.map A.d) := paired_map A.d h.pair
theorem ras_of_d {vs : List V} {ds : List D} (h : Paired (RA c w n) vs (ds.map A.d)) : DRs c w.G ds vs := DRs.of (paired_unmap A.d h)
theorem viewL_ok (rl : RelS c w st H) : ∀ {x : A} {v : V} {xs : List A}, RA c w st.length v x → viewL st x = some xs → ∃ a vs, v = .ref a ∧ H a = some (.lst vs) ∧ Paired (RA c w st.length) vs xs
  | .d x, v, xs, r, h => by
    cases x with
    | list ds =>
      cases h
      obtain ⟨a, vs, rfl, e, p⟩ := r
      exact ⟨a, vs, rfl, rl.same _ _ e, ras_d p⟩
    | _ => cases h
  | .c i, v, xs, ⟨h1, h2⟩, h => by
    have h : (match st[i]? with | some (.lst xs) => some xs | some (.fz (.list ds)) => some (ds.map .d) | _ => none) = some xs := h
    split at h
    · rename_i q
      cases h
      obtain ⟨_, vs, e, p⟩ := rl.cell _ _ q
      exact ⟨_, vs, h2, e, p⟩
    · rename_i q
      cases h
      obtain ⟨⟨a, vs, e0, e, p⟩, _⟩ := rl.cell _ _ q
      cases e0
      exact ⟨_, vs, h2, rl.same _ _ e, ras_d p⟩
    · cases h
theorem viewS_ok (rl : RelS c w st H) {x : A} {v : V} {xs : List A} (r : RA c w st.length v x) (h : viewS st x = some xs) : ∃ a vs, v = .ref a ∧ SqL c.K H a vs ∧ Paired (RA c w st.length) vs xs := by
  unfold viewS at h
  split at h
  · cases h
    obtain ⟨a, vs, rfl, e, p⟩ := r
    exact ⟨a, vs, rfl, rl.same.seq e, ras_d p⟩
  · obtain ⟨a, vs, e, h, p⟩ := viewL_ok rl r h
    exact ⟨a, vs, e, .of h, p⟩
theorem viewT_ok (rl : RelS c w st H) {x : A} {v : V} {xs : List D} (r : RA c w st.length v x) (h : viewT x = some xs) : ∃ a vs, v = .ref a ∧ SqT c.K H a vs ∧ DRs c w.G xs vs := by
  unfold viewT at h
  split at h
  · cases h
    obtain ⟨a, vs, rfl, e, p⟩ := r
    exact ⟨a, vs, rfl, .of (rl.same _ _ e), p⟩
  · cases h
    obtain ⟨a, vs, rfl, e, p⟩ := r
    exact ⟨a, vs, rfl, same_t rl.same e, p⟩
  · cases h
theorem mkL_ok {k : Bool} {xs : List A} {vs : List V} {Q : VK} (rl : Rel c w σa st σ H) (r : Paired (RA c w st.length) vs xs) (p : Post c w st.length σa σ (RA c) W Q (mkL k xs st)) : vs.length ≤ sizeLine ∧ ∀ q, H q = none → Q (.ref q) (upd H q (.lst vs)) := by
  unfold mkL ifc at p
  split at p
  · rename_i hl
    refine ⟨by rw [r.length]; exact SZ_le hl, fun q hq => ?_⟩
    cases k with
    | true =>
      refine p _ _ _ (by rw [List.length_append]; exact w.cell_ext st.length q) (rl.push (o := .lst vs) hq ⟨rl.rs.same.free hq, vs, upd_same, ras_ext (w.cell_ext st.length q) r⟩) ⟨?_, ?_⟩
      · rw [List.length_append]; exact Nat.lt_succ_self _
      · rw [w.cell_at]
    | false =>
      simp only [Bool.false_eq_true, if_false] at p
      split at p
      · rename_i ds hd
        rw [allD_eq hd] at r
        have g := rl.rs.same.free hq
        exact p _ _ _ (w.put_ext g) (rl.put hq) ⟨q, vs, rfl, upd_same, (ras_of_d r).same (same_upd g)⟩
      · exact p.elim
  · exact p.elim
theorem mkT_ok {xs : List A} {vs : List V} {Q : VK} (rl : Rel c w σa st σ H) (r : Paired (RA c w st.length) vs xs) (p : Post c w st.length σa σ (RA c) W Q (mkT xs st)) : vs.length ≤ sizeLine ∧ ∀ q, H q = none → Q (.ref q) (upd H q (.tup vs)) := by
  unfold mkT ifc at p
  split at p
  · rename_i hl
    refine ⟨by rw [r.length]; exact SZ_le hl, fun q hq => ?_⟩
    split at p
    · rename_i ds hd
      rw [allD_eq hd] at r
      have g := rl.rs.same.free hq
      exact p _ _ _ (w.put_ext g) (rl.put hq) ⟨q, vs, rfl, upd_same, (ras_of_d r).same (same_upd g)⟩
    · exact p.elim
  · exact p.elim
end
noncomputable def mList (k : Bool) (fr : MA) : ME := fun σ st => (fr σ st).bind fun xs st1 => mkL k xs st1
noncomputable def mTup (fr : MA) : ME := fun σ st => (fr σ st).bind fun xs st1 => mkT xs st1
section
variable {X : Cx} {c : Ctx} {W : WX} {a b e : Expr} {es rest : List Expr} {fa fb f : ME} {fr : MA} {pos : Pos}
theorem e_list (k : Bool) (h : PA X es (tMA c W fr)) : PE X (.List es pos) (tM c W (mList k fr)) := pe_imp (pe_lst h) fun σ H Q ⟨w, σa, st, rl, p⟩ =>
  ⟨w, σa, st, rl, p.bind fun vs xs st1 w1 H1 _ rl1 r p1 => mkL_ok rl1 r p1⟩
theorem e_tup {x1} (h : PA X es (tMA c W fr)) : PE X (.Tuple es x1 pos) (tM c W (mTup fr)) := pe_imp (pe_tup h) fun σ H Q ⟨w, σa, st, rl, p⟩ =>
  ⟨w, σa, st, rl, p.bind fun vs xs st1 w1 H1 _ rl1 r p1 => mkT_ok rl1 r p1⟩
end
end Am
/-! ### Am: operations by values -/
namespace Am
open PySem PySem.Spec PyProof.Rows L2
open Classical in
/-- the machine goes on only where p holds -/
noncomputable def need {α : Type} (p : Prop) (r : Res α) : Res α := if p then r else .no
theorem need_pos {α : Type} {p : Prop} {r : Res α} (h : p) : need p r = r := by unfold need; exact if_pos h
section
variable {α β : Type} {c : Ctx} {w : Wd} {n : Nat} {σa : Slots} {σ : L2.St} {W : WX} {R : Wd → Nat → β → α → Prop} {Q : β → Hp → Prop} {p : Prop} {r : Res α}
theorem Post.need (h : Post c w n σa σ R W Q (need p r)) : p ∧ Post c w n σa σ R W Q r := by
  unfold Am.need at h
  by_cases q : p
  · rw [if_pos q] at h; exact ⟨q, h⟩
  · rw [if_neg q] at h; exact h.elim
end
/-! two ints -/
noncomputable def gI (C : Int → Int → Prop) (g : Int → Int → D) : A → A → Store → Res A
  | .d (.int i), .d (.int j), st => need (C i j) (.ok (.d (g i j)) st)
  | _, _, _ => .no
def gI0 (g : Int → Int → D) : A → A → Store → Res A
  | .d (.int i), .d (.int j), st => .ok (.d (g i j)) st
  | _, _, _ => .no
section
variable {c : Ctx}
theorem gI0_ok {f : Int → Int → V} {g : Int → Int → D} (h : ∀ G i j, DR c G (g i j) (f i j)) : OpA c (rI0 f) (gI0 g) := by
  intro w σa st σ H x y v u W Q rl rx ry p
  unfold gI0 at p
  split at p
  · exact ⟨_, _, rx, ry, p.here rl (h _ _ _)⟩
  · exact p.elim
theorem gI_ok {C : Int → Int → Prop} {f : Int → Int → V} {g : Int → Int → D} (h : ∀ G i j, DR c G (g i j) (f i j)) : OpA c (rI C f) (gI C g) := by
  intro w σa st σ H x y v u W Q rl rx ry p
  unfold gI at p
  split at p
  · obtain ⟨hc, p⟩ := p.need
    exact ⟨_, _, rx, ry, hc, p.here rl (h _ _ _)⟩
  · exact p.elim
end
abbrev gSub := gI0 fun i j => .int (i - j)
abbrev gXor := gI0 fun i j => .int (Builtin.bitXor i j)
abbrev gAnd := gI0 fun i j => .int (Builtin.bitAnd i j)
def CDivA (i j : Int) : Prop := CDiv i j ∨ CDivW i j
def CMulA (i j : Int) : Prop := CMul i j ∨ CMulW i j
noncomputable abbrev gFdiv := gI CDivA fun i j => .int (i / j)
noncomputable abbrev gMod := gI (fun _ j => 0 < j) fun i j => .int (i % j)
noncomputable abbrev gPow := gI CPow fun i j => .int (i ^ j.toNat)
abbrev gLt := gI0 fun i j => .bl (decide (i < j))
abbrev gLe := gI0 fun i j => .bl (decide (i ≤ j))
abbrev gGt := gI0 fun i j => .bl (decide (j < i))
abbrev gGe := gI0 fun i j => .bl (decide (j ≤ i))
section
variable {X : Cx} {c : Ctx} {W : WX} {a b e : Expr} {fa fb : ME} {pos : Pos}
theorem rI_or {f : Value → Value → Sem Value} {C C' : Int → Int → Prop} {g : Int → Int → V} (h : OpR X f (rI C g)) (h' : OpR X f (rI C' g)) : OpR X f (rI (fun i j => C i j ∨ C' i j) g) := by
  intro pins s σ H x y v u Q I rx ry ⟨i, j, e1, e2, hc, q⟩
  rcases hc with hc | hc
  · exact h pins s σ H x y v u Q I rx ry ⟨i, j, e1, e2, hc, q⟩
  · exact h' pins s σ H x y v u Q I rx ry ⟨i, j, e1, e2, hc, q⟩
theorem e_sub (ha : PE X a (tM c W fa)) (hb : PE X b (tM c W fb)) : PE X (.BinOp a .Sub b pos) (tM c W (mBin gSub fa fb)) := e_bin op_sub (gI0_ok fun _ _ _ => rfl) ha hb
theorem e_xor (ha : PE X a (tM c W fa)) (hb : PE X b (tM c W fb)) : PE X (.BinOp a .BitXor b pos) (tM c W (mBin gXor fa fb)) := e_bin op_xor (gI0_ok fun _ _ _ => rfl) ha hb
theorem e_band (ha : PE X a (tM c W fa)) (hb : PE X b (tM c W fb)) : PE X (.BinOp a .BitAnd b pos) (tM c W (mBin gAnd fa fb)) := e_bin op_and (gI0_ok fun _ _ _ => rfl) ha hb
theorem e_fdiv (ha : PE X a (tM c W fa)) (hb : PE X b (tM c W fb)) : PE X (.BinOp a .FloorDiv b pos) (tM c W (mBin gFdiv fa fb)) := e_bin (rI_or op_fdiv op_fdivW) (gI_ok fun _ _ _ => rfl) ha hb
theorem e_mod (ha : PE X a (tM c W fa)) (hb : PE X b (tM c W fb)) : PE X (.BinOp a .Mod b pos) (tM c W (mBin gMod fa fb)) := e_bin op_mod (gI_ok fun _ _ _ => rfl) ha hb
theorem e_pow (ha : PE X a (tM c W fa)) (hb : PE X b (tM c W fb)) : PE X (.BinOp a .Pow b pos) (tM c W (mBin gPow fa fb)) := e_bin op_pow (gI_ok fun _ _ _ => rfl) ha hb
theorem e_lt (ha : PE X a (tM c W fa)) (hb : PE X b (tM c W fb)) : PE X (.Compare a [.Lt] [b] pos) (tM c W (mBin gLt fa fb)) := e_cmp op_lt (gI0_ok fun _ _ _ => rfl) ha hb (nomark _)
theorem e_le (ha : PE X a (tM c W fa)) (hb : PE X b (tM c W fb)) : PE X (.Compare a [.LtE] [b] pos) (tM c W (mBin gLe fa fb)) := e_cmp op_le (gI0_ok fun _ _ _ => rfl) ha hb (nomark _)
theorem e_gt (ha : PE X a (tM c W fa)) (hb : PE X b (tM c W fb)) : PE X (.Compare a [.Gt] [b] pos) (tM c W (mBin gGt fa fb)) := e_cmp op_gt (gI0_ok fun _ _ _ => rfl) ha hb (nomark _)
theorem e_ge (ha : PE X a (tM c W fa)) (hb : PE X b (tM c W fb)) : PE X (.Compare a [.GtE] [b] pos) (tM c W (mBin gGe fa fb)) := e_cmp op_ge (gI0_ok fun _ _ _ => rfl) ha hb (nomark _)
theorem t_lt (ha : PE X a (tM c W fa)) (hb : PE X b (tM c W fb)) : PT X (.Compare a [.Lt] [b] pos) (tT c W (mTst (mBin gLt fa fb))) := t_cmp op_lt (gI0_ok fun _ _ _ => rfl) ha hb (nomark _)
theorem t_le (ha : PE X a (tM c W fa)) (hb : PE X b (tM c W fb)) : PT X (.Compare a [.LtE] [b] pos) (tT c W (mTst (mBin gLe fa fb))) := t_cmp op_le (gI0_ok fun _ _ _ => rfl) ha hb (nomark _)
theorem t_gt (ha : PE X a (tM c W fa)) (hb : PE X b (tM c W fb)) : PT X (.Compare a [.Gt] [b] pos) (tT c W (mTst (mBin gGt fa fb))) := t_cmp op_gt (gI0_ok fun _ _ _ => rfl) ha hb (nomark _)
theorem t_ge (ha : PE X a (tM c W fa)) (hb : PE X b (tM c W fb)) : PT X (.Compare a [.GtE] [b] pos) (tT c W (mTst (mBin gGe fa fb))) := t_cmp op_ge (gI0_ok fun _ _ _ => rfl) ha hb (nomark _)
end
/-! a < b < c -/
def mChain (g g' : A → A → Store → Res A) (fa fb fc : ME) : ME := fun σ st => (fa σ st).bind fun x st1 => (fb σ st1).bind fun y st2 => (g x y st2).bind fun z st3 => match z with
  | .d (.bl true) => (fc σ st3).bind fun u st4 => g' y u st4
  | .d (.bl false) => .ok (.d (.bl false)) st3
  | _ => .no
section
variable {X : Cx} {c : Ctx} {W : WX} {a b d e : Expr} {fa fb fc : ME} {pos : Pos}
theorem opA_bind {r : R2} {g : A → A → Store → Res A} (hg : OpA c r g) {w : Wd} {n : Nat} {σa : Slots} {st : Store} {σ : L2.St} {H : Hp} {x y : A} {v u : V} {Q Q' : VK} {k : A → Store → Res A} (rl : Rel c w σa st σ H) (rx : RA c w st.length v x) (ry : RA c w st.length u y)
    (p : Post c w st.length σa σ (RA c) W Q ((g x y st).bind k)) (f : ∀ z a st1 w1 H1, Ext w st.length w1 st1.length → Rel c w1 σa st1 σ H1 → RA c w1 st1.length z a → Post c w1 st1.length σa σ (RA c) W Q (k a st1) → Q' z H1) : r v u H Q' :=
  hg w σa st σ H x y v u W Q' rl rx ry (p.bind f)
theorem entail_chain {r r' : R2} {g g' : A → A → Store → Res A} (hg : OpA c r g) (hg' : OpA c r' g') (σ : L2.St) (H : Hp) (Q : VK) : tM c W (mChain g g' fa fb fc) σ H Q → tChain r r' (tM c W fa) (tM c W fb) (tM c W fc) σ H Q := fun ⟨w, σa, st, rl, p⟩ =>
  ⟨w, σa, st, rl, p.bind fun v x st1 w1 H1 _ rl1 rx p1 => ⟨w1, σa, st1, rl1, p1.bind fun u y st2 w2 H2 e2 rl2 ry p2 => opA_bind (n := 0) hg rl2 (rx.ext e2) ry p2 fun z a st3 w3 H3 e3 rl3 ra p3 => by
    split at p3
    · refine ⟨true, ra, iteT ⟨w3, σa, st3, rl3, p3.bind fun t b st4 w4 H4 e4 rl4 rb p4 => hg' w4 σa st4 σ H4 y b u t W Q rl4 ((ry.ext e3).ext e4) rb p4⟩⟩
    · exact ⟨false, ra, iteF (p3.here rl3 rfl)⟩
    · exact p3.elim⟩⟩
theorem e_chain {op op' : CmpOp} {r r' : R2} {g g' : A → A → Store → Res A} (ho : OpR X (compareOp op) r) (hg : OpA c r g) (ho' : OpR X (compareOp op') r') (hg' : OpA c r' g') (ha : PE X a (tM c W fa)) (hb : PE X b (tM c W fb)) (hd : PE X d (tM c W fc))
    (hm : lastMarks [op, op'] [b, d] = false := by with_unfolding_all rfl) : PE X (.Compare a [op, op'] [b, d] pos) (tM c W (mChain g g' fa fb fc)) := pe_imp (pe_chain ho ho' ha hb hd hm) (entail_chain hg hg')
theorem t_chain {op op' : CmpOp} {r r' : R2} {g g' : A → A → Store → Res A} (ho : OpR X (compareOp op) r) (hg : OpA c r g) (ho' : OpR X (compareOp op') r') (hg' : OpA c r' g') (ha : PE X a (tM c W fa)) (hb : PE X b (tM c W fb)) (hd : PE X d (tM c W fc))
    (hm : lastMarks [op, op'] [b, d] = false := by with_unfolding_all rfl) : PT X (.Compare a [op, op'] [b, d] pos) (tT c W (mTst (mChain g g' fa fb fc))) := pt_imp (pt_chain ho ho' ha hb hd hm) fun _ _ _ h => entail_chain hg hg' _ _ _ (entail_tst h)
theorem e_leLe (ha : PE X a (tM c W fa)) (hb : PE X b (tM c W fb)) (hd : PE X d (tM c W fc)) (hm : lastMarks [.LtE, .LtE] [b, d] = false := by with_unfolding_all rfl) : PE X (.Compare a [.LtE, .LtE] [b, d] pos) (tM c W (mChain gLe gLe fa fb fc)) := e_chain op_le (gI0_ok fun _ _ _ => rfl) op_le (gI0_ok fun _ _ _ => rfl) ha hb hd hm
theorem t_leLe (ha : PE X a (tM c W fa)) (hb : PE X b (tM c W fb)) (hd : PE X d (tM c W fc)) (hm : lastMarks [.LtE, .LtE] [b, d] = false := by with_unfolding_all rfl) : PT X (.Compare a [.LtE, .LtE] [b, d] pos) (tT c W (mTst (mChain gLe gLe fa fb fc))) := t_chain op_le (gI0_ok fun _ _ _ => rfl) op_le (gI0_ok fun _ _ _ => rfl) ha hb hd hm
theorem e_leLt (ha : PE X a (tM c W fa)) (hb : PE X b (tM c W fb)) (hd : PE X d (tM c W fc)) (hm : lastMarks [.LtE, .Lt] [b, d] = false := by with_unfolding_all rfl) : PE X (.Compare a [.LtE, .Lt] [b, d] pos) (tM c W (mChain gLe gLt fa fb fc)) := e_chain op_le (gI0_ok fun _ _ _ => rfl) op_lt (gI0_ok fun _ _ _ => rfl) ha hb hd hm
theorem t_leLt (ha : PE X a (tM c W fa)) (hb : PE X b (tM c W fb)) (hd : PE X d (tM c W fc)) (hm : lastMarks [.LtE, .Lt] [b, d] = false := by with_unfolding_all rfl) : PT X (.Compare a [.LtE, .Lt] [b, d] pos) (tT c W (mTst (mChain gLe gLt fa fb fc))) := t_chain op_le (gI0_ok fun _ _ _ => rfl) op_lt (gI0_ok fun _ _ _ => rfl) ha hb hd hm
end
/-! a + b -/
noncomputable def gAdd (k : Bool) : A → A → Store → Res A
  | .d (.int i), .d (.int j), st => .ok (.d (.int (i + j))) st
  | .d (.str a), .d (.str b), st => need (a.length + b.length ≤ SZ) (.ok (.d (.str (a ++ b))) st)
  | .d (.tup a), .d (.tup b), st => mkT ((a ++ b).map .d) st
  | x, y, st => match viewL st x, viewL st y with
    | some a, some b => mkL k (a ++ b) st
    | _, _ => .no
def rAddS : R2 := fun x y H Q => ∃ i j, x = .str i ∧ y = .str j ∧ i.length + j.length ≤ sizeLine ∧ Q (.str (i ++ j)) H
def rAddA (K : PySem.W.Frag) : R2 := fun x y H Q => rI0 (fun i j => .int (i + j)) x y H Q ∨ (rAddS x y H Q ∨ (rCatA K x y H Q ∨ rCat x y H Q))
section
variable {X : Cx} {c : Ctx} {W : WX} {a b e : Expr} {fa fb : ME} {pos : Pos}
theorem op_addA (F : Fits X c) : OpR X (binaryOp .Add) (rAddA c.K) := by
  rw [← F.K]
  exact op_add.or (OpR.or (show OpR X (binaryOp .Add) rAddS from op_add_str) (op_catA.or op_cat))
theorem mkT_data {w : Wd} {n : Nat} {σa : Slots} {st : Store} {σ : L2.St} {Q : VK} {ds : List D} (p : Post c w n σa σ (RA c) W Q (mkT (ds.map .d) st)) : ds.length ≤ SZ ∧ Post c w n σa σ (RA c) W Q (.ok (.d (.tup ds)) st) := by
  unfold mkT ifc at p
  split at p
  · rename_i h
    rw [List.length_map] at h
    rw [allD_map] at p
    exact ⟨h, p⟩
  · exact p.elim
theorem gAdd_ok (k : Bool) : OpA c (rAddA c.K) (gAdd k) := by
  intro w σa st σ H x y v u W Q rl rx ry p
  unfold gAdd at p
  split at p
  · exact .inl ⟨_, _, rx, ry, p.here rl rfl⟩
  · obtain ⟨hl, p⟩ := p.need
    exact .inr (.inl ⟨_, _, rx, ry, SZ_le hl, p.here rl rfl⟩)
  · rename_i a b
    obtain ⟨_, va, ea, qa, da⟩ := viewT_ok rl.rs rx rfl
    obtain ⟨_, vb, eb, qb, db⟩ := viewT_ok rl.rs ry rfl
    have pr : Paired (RA c w st.length) (va ++ vb) ((a ++ b).map A.d) := by rw [List.map_append]; exact paired_append (ras_d da) (ras_d db)
    obtain ⟨hl, hq⟩ := mkT_ok rl pr p
    obtain ⟨_, p2⟩ := mkT_data p
    refine .inr (.inr (.inl ⟨_, _, va, vb, ea, eb, qa, qb, by rw [← List.length_append]; exact hl, fun z => ?_, fun _ z => ?_, fun _ _ => hq⟩))
    · subst z
      have : a = [] := by cases a with | nil => rfl | cons _ _ => obtain ⟨_, _, e, _⟩ := da; cases e
      subst this
      rw [eb] at ry
      exact p2.here rl ry
    · subst z
      have : b = [] := by cases b with | nil => rfl | cons _ _ => obtain ⟨_, _, e, _⟩ := db; cases e
      subst this
      rw [ea] at rx
      exact p2.here rl (by rw [List.append_nil]; exact rx)
  · split at p
    · rename_i ha hb
      obtain ⟨_, va, ea, qa, da⟩ := viewL_ok rl.rs rx ha
      obtain ⟨_, vb, eb, qb, db⟩ := viewL_ok rl.rs ry hb
      obtain ⟨hl, hq⟩ := mkL_ok rl (paired_append da db) p
      exact .inr (.inr (.inr ⟨_, _, va, vb, ea, eb, qa, qb, by rw [← List.length_append]; exact hl, hq⟩))
    · exact p.elim
theorem e_add (k : Bool) (ha : PE X a (tM c W fa)) (hb : PE X b (tM c W fb)) (F : Fits X c := by exact ⟨rfl, rfl⟩) : PE X (.BinOp a .Add b pos) (tM c W (mBin (gAdd k) fa fb)) := e_bin (op_addA F) (gAdd_ok k) ha hb
end
/-! a * b -/
noncomputable def gMul (k : Bool) : A → A → Store → Res A
  | .d (.int i), .d (.int j), st => need (CMulA i j) (.ok (.d (.int (i * j))) st)
  | x, .d (.int j), st => match viewL st x with
    | some a => need (j < 2 ^ 63 ∧ -(2 ^ 63) ≤ j ∧ a.length * j.toNat ≤ SZ) (mkL k (List.replicate j.toNat a).flatten st)
    | _ => .no
  | _, _, _ => .no
def rMulA : R2 := fun x y H Q => rI CMulA (fun i j => .int (i * j)) x y H Q ∨ rRep x y H Q
theorem paired_rep {α β : Type} {F : α → β → Prop} {l₁ : List α} {l₂ : List β} (h : Paired F l₁ l₂) : ∀ n : Nat, Paired F (List.replicate n l₁).flatten (List.replicate n l₂).flatten
  | 0 => .nil
  | n + 1 => by
    rw [List.replicate_succ, List.replicate_succ, List.flatten_cons, List.flatten_cons]
    exact paired_append h (paired_rep h n)
section
variable {X : Cx} {c : Ctx} {W : WX} {a b e : Expr} {fa fb f : ME} {pos : Pos}
theorem gMul_ok (k : Bool) : OpA c rMulA (gMul k) := by
  intro w σa st σ H x y v u W Q rl rx ry p
  unfold gMul at p
  split at p
  · obtain ⟨hc, p⟩ := p.need
    exact .inl ⟨_, _, rx, ry, hc, p.here rl rfl⟩
  · split at p
    · rename_i ha
      obtain ⟨⟨h1, h2, h3⟩, p⟩ := p.need
      obtain ⟨_, va, ea, qa, da⟩ := viewL_ok rl.rs rx ha
      exact .inr ⟨_, _, va, ea, ry, qa, h2, h1, by rw [da.length]; exact SZ_le h3, (mkL_ok rl (paired_rep da _) p).2⟩
    · exact p.elim
  · exact p.elim
theorem e_mul (k : Bool) (ha : PE X a (tM c W fa)) (hb : PE X b (tM c W fb)) : PE X (.BinOp a .Mult b pos) (tM c W (mBin (gMul k) fa fb)) := e_bin (OpR.or (rI_or op_mul op_mulW) op_rep) (gMul_ok k) ha hb
/-! -a, not a -/
def gNeg : A → Store → Res A
  | .d (.int i), st => .ok (.d (.int (-i))) st
  | _, _ => .no
theorem e_neg (ha : PE X a (tM c W fa)) : PE X (.UnaryOp .USub a pos) (tM c W (mUn gNeg fa)) := e_un un_neg (fun w σa st σ H x v W Q rl rx p => by
  unfold gNeg at p
  split at p
  · exact ⟨_, rx, p.here rl rfl⟩
  · exact p.elim) ha
end
/-! truth -/
def truthD : D → Option Bool
  | .non => some false
  | .bl b => some b
  | .int i => some (i != 0)
  | .list xs => some (!xs.isEmpty)
  | .scr xs => some (!xs.isEmpty)
  | .tup xs => some (!xs.isEmpty)
  | .kt xs => some (!xs.isEmpty)
  | .dK xs => some (!xs.isEmpty)
  | _ => none
def truthA (st : Store) : A → Option Bool
  | .d x => truthD x
  | .c i => match st[i]? with
    | some (.lst xs) => some (!xs.isEmpty)
    | some (.dK xs) => some (!xs.isEmpty)
    | some (.fz x) => truthD x
    | _ => none
def mTru (f : ME) : MT := fun σ st => (f σ st).bind fun a st1 => match truthA st1 a with
  | some b => .ok b st1
  | none => .no
def mNot (f : MT) : MT := fun σ st => (f σ st).bind fun b st1 => .ok (!b) st1
def mAnd (f g : MT) : MT := fun σ st => (f σ st).bind fun b st1 => if b then g σ st1 else .ok false st1
def mOr (f g : MT) : MT := fun σ st => (f σ st).bind fun b st1 => if b then .ok true st1 else g σ st1
def mIfE (t : MT) (f g : ME) : ME := fun σ st => (t σ st).bind fun b st1 => if b then f σ st1 else g σ st1
/-- as values -/
def mNotV (f : ME) : ME := fun σ st => (f σ st).bind fun a st1 => match truthA st1 a with
  | some b => .ok (.d (.bl (!b))) st1
  | none => .no
def mAndV (f g : ME) : ME := fun σ st => (f σ st).bind fun a st1 => match truthA st1 a with
  | some true => g σ st1
  | some false => .ok a st1
  | none => .no
def mOrV (f g : ME) : ME := fun σ st => (f σ st).bind fun a st1 => match truthA st1 a with
  | some true => .ok a st1
  | some false => g σ st1
  | none => .no
theorem paired_empty {α β : Type} {F : α → β → Prop} {l₁ : List α} {l₂ : List β} (h : Paired F l₁ l₂) : l₂.isEmpty = l₁.isEmpty := by cases h <;> rfl
section
variable {X : Cx} {c : Ctx} {W : WX} {a b e : Expr} {rest : List Expr} {fa fb f : ME} {ta tb : MT} {pos : Pos}
theorem truthD_ok {w : Wd} {H : Hp} (sm : Same w.G H) : ∀ {x : D} {v : V} {k : Bool}, DR c w.G x v → truthD x = some k → TruV c.K v H k := by
  intro x v k r h
  cases x with
  | non => cases h; cases r; exact rfl
  | bl b => cases h; cases r; exact rfl
  | int i => cases h; cases r; exact rfl
  | list xs => cases h; obtain ⟨a, vs, rfl, e, p⟩ := r; exact .inl ⟨vs, .of (sm _ _ e), by rw [paired_empty p.pair]⟩
  | scr xs => cases h; obtain ⟨a, vs, rfl, e, p⟩ := r; exact .inl ⟨vs, sm.seq e, by rw [paired_empty p.pair]⟩
  | tup xs => cases h; obtain ⟨a, vs, rfl, e, p⟩ := r; exact .inr (.inl ⟨vs, .of (sm _ _ e), by rw [paired_empty p.pair]⟩)
  | kt xs => cases h; obtain ⟨a, vs, rfl, e, p⟩ := r; exact .inr (.inl ⟨vs, same_t sm e, by rw [paired_empty p.pair]⟩)
  | dK xs => cases h; obtain ⟨a, vs, rfl, e, p⟩ := r; exact .inr (.inr ⟨vs, sm _ _ e, by rw [paired_empty p.pair]⟩)
  | _ => cases h
theorem truthA_ok {w : Wd} {st : Store} {H : Hp} (rl : RelS c w st H) : ∀ {x : A} {v : V} {k : Bool}, RA c w st.length v x → truthA st x = some k → TruV c.K v H k
  | .d x, v, k, r, h => truthD_ok rl.same r h
  | .c i, v, k, ⟨_, e⟩, h => by
    have h : (match st[i]? with | some (.lst xs) => some (!xs.isEmpty) | some (.dK xs) => some (!xs.isEmpty) | some (.fz x) => truthD x | _ => none) = some k := h
    split at h
    · rename_i q
      cases h
      obtain ⟨_, vs, e2, p⟩ := rl.cell _ _ q
      rw [e]
      exact .inl ⟨vs, .of e2, by rw [paired_empty p]⟩
    · rename_i q
      cases h
      obtain ⟨_, vs, e2, p⟩ := rl.cell _ _ q
      rw [e]
      exact .inr (.inr ⟨vs, e2, by rw [paired_empty p]⟩)
    · rename_i q
      rw [e]
      exact truthD_ok rl.same (rl.cell _ _ q).1 h
    · cases h
theorem t_tru (ha : PE X a (tM c W f)) (he : ∀ whole, isTrue a X.env whole = (do let v ← whole; standAt a.pos; holding [v] (truthy v)) := by intro _; rfl) (F : Fits X c := by exact ⟨rfl, rfl⟩) : PT X a (tT c W (mTru f)) :=
  pt_imp (pt_truth ha he) fun σ H Q ⟨w, σa, st, rl, p⟩ => ⟨w, σa, st, rl, p.bind fun v x st1 w1 H1 _ rl1 rx p1 => by
    split at p1
    · rename_i k hk
      rw [F.K]
      exact ⟨k, truthA_ok rl1.rs rx hk, p1.here rl1 rfl⟩
    · exact p1.elim⟩
theorem t_not (ha : PT X a (tT c W ta)) : PT X (.UnaryOp .Not a pos) (tT c W (mNot ta)) := pt_imp (pt_not ha) fun σ H Q ⟨w, σa, st, rl, p⟩ => ⟨w, σa, st, rl, p.bind fun v x st1 w1 H1 _ rl1 rx p1 => by
  subst rx
  exact p1.here rl1 rfl⟩
theorem w_and1 (ha : PT X a (tT c W ta)) : PW X (.BoolOp .And [a] pos) (tT c W ta) := pw_and1 ha
theorem w_or1 (ha : PT X a (tT c W ta)) : PW X (.BoolOp .Or [a] pos) (tT c W ta) := pw_or1 ha
theorem w_and (ha : PT X a (tT c W ta)) (hb : PW X (.BoolOp .And (b :: rest) pos) (tT c W tb)) : PW X (.BoolOp .And (a :: b :: rest) pos) (tT c W (mAnd ta tb)) := pw_imp (pw_and ha hb) fun σ H Q ⟨w, σa, st, rl, p⟩ =>
  ⟨w, σa, st, rl, p.bind fun v x st1 w1 H1 _ rl1 rx p1 => by
    subst rx
    cases v with
    | true => exact iteT ⟨w1, σa, st1, rl1, p1⟩
    | false => exact iteF (p1.here rl1 rfl)⟩
theorem w_or (ha : PT X a (tT c W ta)) (hb : PW X (.BoolOp .Or (b :: rest) pos) (tT c W tb)) : PW X (.BoolOp .Or (a :: b :: rest) pos) (tT c W (mOr ta tb)) := pw_imp (pw_or ha hb) fun σ H Q ⟨w, σa, st, rl, p⟩ =>
  ⟨w, σa, st, rl, p.bind fun v x st1 w1 H1 _ rl1 rx p1 => by
    subst rx
    cases v with
    | true => exact iteT (p1.here rl1 rfl)
    | false => exact iteF ⟨w1, σa, st1, rl1, p1⟩⟩
theorem t_bool (h : PW X e (tT c W ta)) : PT X e (tT c W ta) := h.pt
theorem e_if (ht : PT X e (tT c W ta)) (ha : PE X a (tM c W fa)) (hb : PE X b (tM c W fb)) : PE X (.IfExp e a b pos) (tM c W (mIfE ta fa fb)) := pe_imp (pe_ifExp ht ha hb) fun σ H Q ⟨w, σa, st, rl, p⟩ =>
  ⟨w, σa, st, rl, p.bind fun v x st1 w1 H1 _ rl1 rx p1 => by
    subst rx
    cases v with
    | true => exact iteT ⟨w1, σa, st1, rl1, p1⟩
    | false => exact iteF ⟨w1, σa, st1, rl1, p1⟩⟩
theorem e_not (ha : PE X a (tM c W f)) (F : Fits X c := by exact ⟨rfl, rfl⟩) : PE X (.UnaryOp .Not a pos) (tM c W (mNotV f)) := pe_imp (pe_notT ha) fun σ H Q ⟨w, σa, st, rl, p⟩ => ⟨w, σa, st, rl, p.bind fun v x st1 w1 H1 _ rl1 rx p1 => by
  split at p1
  · rename_i k hk
    rw [F.K]
    exact ⟨k, truthA_ok rl1.rs rx hk, p1.here rl1 rfl⟩
  · exact p1.elim⟩
theorem e_one {op} (ha : PE X a (tM c W f)) : PE X (.BoolOp op [a] pos) (tM c W f) := pe_one ha
theorem e_and (ha : PE X a (tM c W fa)) (hb : PE X (.BoolOp .And (b :: rest) pos) (tM c W fb)) (F : Fits X c := by exact ⟨rfl, rfl⟩) : PE X (.BoolOp .And (a :: b :: rest) pos) (tM c W (mAndV fa fb)) := pe_imp (pe_andT ha hb) fun σ H Q ⟨w, σa, st, rl, p⟩ =>
  ⟨w, σa, st, rl, p.bind fun v x st1 w1 H1 _ rl1 rx p1 => by
    rw [F.K]
    split at p1
    · rename_i hk
      exact ⟨true, truthA_ok rl1.rs rx hk, iteT ⟨w1, σa, st1, rl1, p1⟩⟩
    · rename_i hk
      exact ⟨false, truthA_ok rl1.rs rx hk, iteF (p1.here rl1 rx)⟩
    · exact p1.elim⟩
theorem e_or (ha : PE X a (tM c W fa)) (hb : PE X (.BoolOp .Or (b :: rest) pos) (tM c W fb)) (F : Fits X c := by exact ⟨rfl, rfl⟩) : PE X (.BoolOp .Or (a :: b :: rest) pos) (tM c W (mOrV fa fb)) := pe_imp (pe_orT ha hb) fun σ H Q ⟨w, σa, st, rl, p⟩ =>
  ⟨w, σa, st, rl, p.bind fun v x st1 w1 H1 _ rl1 rx p1 => by
    rw [F.K]
    split at p1
    · rename_i hk
      exact ⟨true, truthA_ok rl1.rs rx hk, iteT (p1.here rl1 rx)⟩
    · rename_i hk
      exact ⟨false, truthA_ok rl1.rs rx hk, iteF ⟨w1, σa, st1, rl1, p1⟩⟩
    · exact p1.elim⟩
end
/-! is None, is of bools -/
def gIs (neg : Bool) : A → A → Store → Res A
  | .d .non, .d .non, st => .ok (.d (.bl (!neg))) st
  | _, .d .non, st => .ok (.d (.bl neg)) st
  | .d (.bl a), .d (.bl b), st => .ok (.d (.bl (if neg then !decide (a = b) else decide (a = b)))) st
  | _, _, _ => .no
def rIsA (neg : Bool) : R2 := fun x y H Q => (y = .non ∧ Q (.bl (if neg then !decide (x = .non) else decide (x = .non))) H) ∨ (∃ a b : Bool, x = .bl a ∧ y = .bl b ∧ Q (.bl (if neg then !decide (a = b) else decide (a = b))) H)
section
variable {X : Cx} {c : Ctx} {W : WX} {a b e : Expr} {fa fb f : ME} {pos : Pos}
theorem RA.ne_non {w : Wd} {n : Nat} {x : A} {v : V} (r : RA c w n v x) (h : x ≠ .d .non) : v ≠ .non := fun z => by
  subst z
  cases x with
  | c i => cases r.2
  | d x =>
    cases x with
    | non => exact h rfl
    | list _ => obtain ⟨_, _, e, _⟩ := r; cases e
    | scr _ => obtain ⟨_, _, e, _⟩ := r; cases e
    | tup _ => obtain ⟨_, _, e, _⟩ := r; cases e
    | kt _ => obtain ⟨_, _, e, _⟩ := r; cases e
    | dK _ => obtain ⟨_, _, e, _⟩ := r; cases e
    | dT _ => obtain ⟨_, _, e, _⟩ := r; cases e
    | ins _ _ => obtain ⟨_, _, _, _, e, _⟩ := r; cases e
    | fn _ => obtain ⟨_, _, e⟩ := r; cases e
    | _ => cases r
theorem gIs_ok (neg : Bool) : OpA c (rIsA neg) (gIs neg) := by
  intro w σa st σ H x y v u W Q rl rx ry p
  unfold gIs at p
  split at p
  · refine .inl ⟨ry, p.here rl ?_⟩
    cases (show v = .non from rx)
    show _ = _
    cases neg <;> rfl
  · rename_i h
    refine .inl ⟨ry, p.here rl ?_⟩
    have hv := RA.ne_non rx fun z => h z
    rw [decide_eq_false hv]
    show _ = _
    cases neg <;> rfl
  · exact .inr ⟨_, _, rx, ry, p.here rl rfl⟩
  · exact p.elim
theorem op_isA : OpR X (compareOp .Is) (rIsA false) := OpR.or (show OpR X (compareOp .Is) (fun x y H Q => y = .non ∧ Q (.bl (decide (x = .non))) H) from op_isN) (show OpR X (compareOp .Is) rIsB from op_isBl)
theorem op_notA : OpR X (compareOp .IsNot) (rIsA true) := OpR.or (show OpR X (compareOp .IsNot) (fun x y H Q => y = .non ∧ Q (.bl (!decide (x = .non))) H) from op_notN) (show OpR X (compareOp .IsNot) rNotB from op_notBl)
theorem e_is (ha : PE X a (tM c W fa)) (hb : PE X b (tM c W fb)) : PE X (.Compare a [.Is] [b] pos) (tM c W (mBin (gIs false) fa fb)) := e_cmp op_isA (gIs_ok _) ha hb (nomark _)
theorem t_is (ha : PE X a (tM c W fa)) (hb : PE X b (tM c W fb)) : PT X (.Compare a [.Is] [b] pos) (tT c W (mTst (mBin (gIs false) fa fb))) := t_cmp op_isA (gIs_ok _) ha hb (nomark _)
theorem e_isnot (ha : PE X a (tM c W fa)) (hb : PE X b (tM c W fb)) : PE X (.Compare a [.IsNot] [b] pos) (tM c W (mBin (gIs true) fa fb)) := e_cmp op_notA (gIs_ok _) ha hb (nomark _)
theorem t_isnot (ha : PE X a (tM c W fa)) (hb : PE X b (tM c W fb)) : PT X (.Compare a [.IsNot] [b] pos) (tT c W (mTst (mBin (gIs true) fa fb))) := t_cmp op_notA (gIs_ok _) ha hb (nomark _)
end
end Am
/-! ### Am: equality, built-in calls, subscripts, slices, methods of lists -/
namespace Am
open PySem PySem.Spec PyProof.Rows L2
/-! == -/
mutual
def D.py : D → Option PyData
  | .non => some .none
  | .bl b => some (.bool b)
  | .int i => some (.int i)
  | .str x => some (.str x)
  | .list ds => (D.pys ds).map .list
  | .scr ds => (D.pys ds).map .list
  | .tup ds => (D.pys ds).map .tuple
  | .kt ds => (D.pys ds).map .tuple
  | _ => none
def D.pys : List D → Option (List PyData)
  | [] => some []
  | d :: ds => match D.py d, D.pys ds with
    | some x, some xs => some (x :: xs)
    | _, _ => none
end
/-- the data of a value -/
def peek (st : Store) : A → Option D
  | .d x => some x
  | .c i => match st[i]? with
    | some (.lst xs) => (allD xs).map .list
    | some (.dK kvs) => none
    | some (.fz x) => some x
    | _ => none
section
variable {c : Ctx} {G H : Hp}
mutual
theorem DR.dp (sm : Same G H) : ∀ {d : D} {v : V} {p : PyData}, DR c G d v → d.py = some p → Dp c.K H v p
  | .non, _, _, h, e => by cases e; cases h; exact .non
  | .bl _, _, _, h, e => by cases e; cases h; exact .bl _
  | .int _, _, _, h, e => by cases e; cases h; exact .int _
  | .str _, _, _, h, e => by cases e; cases h; exact .str _
  | .list _, _, _, ⟨a, vs, h1, h2, h3⟩, e => by
    obtain ⟨ps, e1, rfl⟩ := Option.map_eq_some_iff.mp e
    subst h1
    exact .lst (.of (sm _ _ h2)) (DRs.dp sm h3 e1)
  | .scr _, _, _, ⟨a, vs, h1, h2, h3⟩, e => by
    obtain ⟨ps, e1, rfl⟩ := Option.map_eq_some_iff.mp e
    subst h1
    exact .lst (sm.seq h2) (DRs.dp sm h3 e1)
  | .tup _, _, _, ⟨a, vs, h1, h2, h3⟩, e => by
    obtain ⟨ps, e1, rfl⟩ := Option.map_eq_some_iff.mp e
    subst h1
    exact .tup (.of (sm _ _ h2)) (DRs.dp sm h3 e1)
  | .kt _, _, _, ⟨a, vs, h1, h2, h3⟩, e => by
    obtain ⟨ps, e1, rfl⟩ := Option.map_eq_some_iff.mp e
    subst h1
    exact .tup (same_t sm h2) (DRs.dp sm h3 e1)
  | .dK _, _, _, _, e => nomatch e
  | .dT _, _, _, _, e => nomatch e
  | .ins _ _, _, _, _, e => nomatch e
  | .fn _, _, _, _, e => nomatch e
theorem DRs.dp (sm : Same G H) : ∀ {ds : List D} {vs : List V} {ps : List PyData}, DRs c G ds vs → D.pys ds = some ps → DpAll c.K H vs ps
  | [], _, _, h, e => by cases e; cases h; exact .nil
  | d :: ds, _, _, ⟨v, r, h1, h2, h3⟩, e => by
    unfold D.pys at e
    split at e
    · rename_i x xs e1 e2
      cases e
      subst h1
      exact .cons (DR.dp sm h2 e1) (DRs.dp sm h3 e2)
    · cases e
end
theorem peek_dp {w : Wd} {st : Store} (rl : RelS c w st H) : ∀ {x : A} {v : V} {d : D} {p : PyData}, RA c w st.length v x → peek st x = some d → d.py = some p → Dp c.K H v p
  | .d x, v, d, p, r, h, e => by cases h; exact DR.dp rl.same r e
  | .c i, v, d, p, ⟨_, ev⟩, h, e => by
    have h : (match st[i]? with | some (.lst xs) => (allD xs).map D.list | some (.dK _) => none | some (.fz x) => some x | _ => none) = some d := h
    split at h
    · rename_i q
      obtain ⟨ds, hd, rfl⟩ := Option.map_eq_some_iff.mp h
      obtain ⟨_, vs, e2, pr⟩ := rl.cell _ _ q
      rw [allD_eq hd] at pr
      obtain ⟨ps, e1, rfl⟩ := Option.map_eq_some_iff.mp e
      rw [ev]
      exact .lst (.of e2) (DRs.dp rl.same (ras_of_d pr) e1)
    · cases h
    · rename_i q
      cases h
      rw [ev]
      exact DR.dp rl.same (rl.cell _ _ q).1 e
    · cases h
end
noncomputable def gEq (neg : Bool) : A → A → Store → Res A := fun x y st => match (peek st x).bind D.py, (peek st y).bind D.py with
  | some a, some b => need (SeqAt.shaped a = true ∧ SeqAt.shaped b = true) (.ok (.d (.bl (if neg then !PyData.eqv a b else PyData.eqv a b))) st)
  | _, _ => .no
def rEqN (K : PySem.W.Frag) (neg : Bool) : R2 := fun x y H Q => ∃ d e, Dp K H x d ∧ Dp K H y e ∧ SeqAt.shaped d = true ∧ SeqAt.shaped e = true ∧ Q (.bl (if neg then !PyData.eqv d e else PyData.eqv d e)) H
section
variable {X : Cx} {c : Ctx} {W : WX} {a b e : Expr} {fa fb f : ME} {pos : Pos} {k : Nat}
theorem gEq_ok (neg : Bool) : OpA c (rEqN c.K neg) (gEq neg) := by
  intro w σa st σ H x y v u W Q rl rx ry p
  unfold gEq at p
  split at p
  · rename_i a b ha hb
    obtain ⟨⟨h1, h2⟩, p⟩ := p.need
    obtain ⟨da, e1, e2⟩ := Option.bind_eq_some_iff.mp ha
    obtain ⟨db, e3, e4⟩ := Option.bind_eq_some_iff.mp hb
    exact ⟨_, _, peek_dp rl.rs rx e1 e2, peek_dp rl.rs ry e3 e4, h1, h2, p.here rl rfl⟩
  · exact p.elim
theorem op_eqA (hr : Room k X.A) (F : Fits X c) : OpR X (compareOp .Eq) (rEqN c.K false) := by rw [← F.K]; exact op_eqD hr.units
theorem op_neA (hr : Room k X.A) (F : Fits X c) : OpR X (compareOp .NotEq) (rEqN c.K true) := by rw [← F.K]; exact op_neD hr.units
theorem e_eq (hr : Room k X.A) (ha : PE X a (tM c W fa)) (hb : PE X b (tM c W fb)) (F : Fits X c := by exact ⟨rfl, rfl⟩) : PE X (.Compare a [.Eq] [b] pos) (tM c W (mBin (gEq false) fa fb)) := e_cmp (op_eqA hr F) (gEq_ok _) ha hb (nomark _)
theorem t_eq (hr : Room k X.A) (ha : PE X a (tM c W fa)) (hb : PE X b (tM c W fb)) (F : Fits X c := by exact ⟨rfl, rfl⟩) : PT X (.Compare a [.Eq] [b] pos) (tT c W (mTst (mBin (gEq false) fa fb))) := t_cmp (op_eqA hr F) (gEq_ok _) ha hb (nomark _)
theorem e_ne (hr : Room k X.A) (ha : PE X a (tM c W fa)) (hb : PE X b (tM c W fb)) (F : Fits X c := by exact ⟨rfl, rfl⟩) : PE X (.Compare a [.NotEq] [b] pos) (tM c W (mBin (gEq true) fa fb)) := e_cmp (op_neA hr F) (gEq_ok _) ha hb (nomark _)
theorem t_ne (hr : Room k X.A) (ha : PE X a (tM c W fa)) (hb : PE X b (tM c W fb)) (F : Fits X c := by exact ⟨rfl, rfl⟩) : PT X (.Compare a [.NotEq] [b] pos) (tT c W (mTst (mBin (gEq true) fa fb))) := t_cmp (op_neA hr F) (gEq_ok _) ha hb (nomark _)
end

/-! ### calls of built-ins -/
abbrev GC := List A → Store → Res A
def CallA (c : Ctx) (r : List V → Hp → VK → Prop) (g : GC) : Prop := ∀ (w : Wd) (σa : Slots) (st : Store) (σ : L2.St) (H : Hp) (xs : List A) (vs : List V) (W : WX) (Q : VK),
  Rel c w σa st σ H → Paired (RA c w st.length) vs xs → Post c w st.length σa σ (RA c) W Q (g xs st) → r vs H Q
theorem CallR.or {X : Cx} {f : Value} {r r' : List V → Hp → VK → Prop} (h : CallR X f r) (h' : CallR X f r') : CallR X f (fun xs H Q => r xs H Q ∨ r' xs H Q) := by
  intro pins s σ H xs us Q I rx q
  rcases q with q | q
  · exact h pins s σ H xs us Q I rx q
  · exact h' pins s σ H xs us Q I rx q
def mCallB (g : GC) (fs : MA) : ME := fun σ st => (fs σ st).bind fun xs st1 => g xs st1
noncomputable def gLen : GC
  | [x], st => match viewS st x with
    | some xs => .ok (.d (.int xs.length)) st
    | none => match x with
      | .d (.tup ds) => .ok (.d (.int ds.length)) st
      | .d (.kt ds) => .ok (.d (.int ds.length)) st
      | .d (.str z) => ifc (z.length ≤ SZ) (.ok (.d (.int z.length)) st) .no
      | .d (.dK ds) => .ok (.d (.int ds.length)) st
      | .d (.dT ds) => .ok (.d (.int ds.length)) st
      | .c i => match st[i]? with
        | some (.dK ds) => .ok (.d (.int ds.length)) st
        | some (.dT ds) => .ok (.d (.int ds.length)) st
        | some (.fz (.dK ds)) => .ok (.d (.int ds.length)) st
        | some (.fz (.dT ds)) => .ok (.d (.int ds.length)) st
        | _ => .no
      | _ => .no
  | _, _ => .no
def gInt : GC
  | [.d (.int i)], st => .ok (.d (.int i)) st
  | [.d (.bl b)], st => .ok (.d (.int (if b then 1 else 0))) st
  | _, _ => .no
def gMax : GC
  | [.d (.int i), .d (.int j)], st => .ok (.d (.int (if j > i then j else i))) st
  | _, _ => .no
def gMin : GC
  | [.d (.int i), .d (.int j)], st => .ok (.d (.int (if j < i then j else i))) st
  | _, _ => .no
def gOrd : GC
  | [.d (.str x)], st => if x.length = 1 then .ok (.d (.int (x.cps.getD 0 0 : Nat))) st else .no
  | _, _ => .no
noncomputable def gListOf (k : Bool) : GC
  | [x], st => match viewS st x with
    | some xs => mkL k xs st
    | none => match viewT x with
      | some ds => mkL k (ds.map .d) st
      | none => .no
  | _, _ => .no
noncomputable def gTupOf : GC
  | [x], st => match viewT x with
    | some _ => .ok x st
    | none => match viewS st x with
      | some xs => mkT xs st
      | none => .no
  | _, _ => .no
def rLenA2 (K : PySem.W.Frag) : List V → Hp → VK → Prop := fun xs H Q => (∃ x n, xs = [x] ∧ LenV K x H n ∧ Q (.int n) H) ∨ ((∃ a kvs, xs = [V.ref a] ∧ H a = some (.dK kvs) ∧ Q (.int kvs.length) H) ∨ rLenT xs H Q)
section
variable {X : Cx} {c : Ctx} {W : WX} {a b e : Expr} {es : List Expr} {fa fb f : ME} {fs : MA} {p pos : Pos}
theorem pr1 {α β : Type} {F : α → β → Prop} {vs : List α} {b : β} (h : Paired F vs [b]) : ∃ a, vs = [a] ∧ F a b := by
  cases h with
  | cons r t => cases t; exact ⟨_, rfl, r⟩
theorem pr2 {α β : Type} {F : α → β → Prop} {vs : List α} {b b' : β} (h : Paired F vs [b, b']) : ∃ a a', vs = [a, a'] ∧ F a b ∧ F a' b' := by
  cases h with
  | cons r t => obtain ⟨a', rfl, r'⟩ := pr1 t; exact ⟨_, _, rfl, r, r'⟩
theorem pr3 {α β : Type} {F : α → β → Prop} {vs : List α} {b b' b2 : β} (h : Paired F vs [b, b', b2]) : ∃ a a' a2, vs = [a, a', a2] ∧ F a b ∧ F a' b' ∧ F a2 b2 := by
  cases h with
  | cons r t => obtain ⟨a', a2, rfl, r', r2⟩ := pr2 t; exact ⟨_, _, _, rfl, r, r', r2⟩
theorem entail_cb {r : List V → Hp → VK → Prop} {g : GC} (hg : CallA c r g) (σ : L2.St) (H : Hp) (Q : VK) : tM c W (mCallB g fs) σ H Q → tCB r (tMA c W fs) σ H Q := fun ⟨w, σa, st, rl, p⟩ =>
  ⟨w, σa, st, rl, p.bind fun vs xs st1 w1 H1 _ rl1 rx p1 => hg w1 σa st1 σ H1 xs vs W Q rl1 rx p1⟩
theorem e_callB {id : String} {x : Str} {r : List V → Hp → VK → Prop} {g : GC} (hc : CallR X (.builtin id) r) (hg : CallA c r g) (hgl : Gl X x) (hm : c.mg x = none) (hv : bootBuiltins x = some (.builtin id)) (ha : PA X (e :: es) (tMA c W fs)) (F : Fits X c) (hn : x ≠ "__name__" := by decide) (hdb : (x == ("__debug__" : Str)) = false := by decide)
    (he : starEach (e :: es) X.env = (false, eval e X.env) :: starEach es X.env := by rfl) (hpl : (backTo pos (starEach es X.env)).any (·.1) = false := by rfl) : PE X (.Call (.Name x p) (e :: es) [] pos) (tM c W (mCallB g fs)) :=
  pe_imp (pe_callB hc hgl (by rw [F.mg]; exact hm) hv ha hn hdb he hpl) (entail_cb hg)
theorem e_callTy {T : String} {x : Str} {r : List V → Hp → VK → Prop} {g : GC} (hc : CallR X (.type T) r) (hg : CallA c r g) (hgl : Gl X x) (hm : c.mg x = none) (hv : bootBuiltins x = some (.type T)) (ha : PA X (e :: es) (tMA c W fs)) (F : Fits X c) (hn : x ≠ "__name__" := by decide) (hdb : (x == ("__debug__" : Str)) = false := by decide)
    (he : starEach (e :: es) X.env = (false, eval e X.env) :: starEach es X.env := by rfl) (hpl : (backTo pos (starEach es X.env)).any (·.1) = false := by rfl) : PE X (.Call (.Name x p) (e :: es) [] pos) (tM c W (mCallB g fs)) :=
  pe_imp (pe_callTy hc hgl (by rw [F.mg]; exact hm) hv ha hn hdb he hpl) (entail_cb hg)
theorem dr_len {G H : Hp} (sm : Same G H) {ds : List (Key × D)} {v : V} (r : DR c G (.dK ds) v) : ∃ a us, v = .ref a ∧ H a = some (.dK us) ∧ us.length = ds.length := by
  obtain ⟨a, us, rfl, e, p⟩ := r
  exact ⟨a, us, rfl, sm _ _ e, p.pair.length⟩
theorem dr_lenT {G H : Hp} (sm : Same G H) {ds : List (List Key × D)} {v : V} (r : DR c G (.dT ds) v) : ∃ a us, v = .ref a ∧ H a = some (.dT us) ∧ us.length = ds.length := by
  obtain ⟨a, us, rfl, e, p⟩ := r
  exact ⟨a, us, rfl, sm _ _ e, p.pair.length⟩
theorem gLen_ok : CallA c (rLenA2 c.K) gLen := by
  intro w σa st σ H xs vs W Q rl rxs p
  unfold gLen at p
  simp only [ifc] at p
  split at p
  · obtain ⟨v, rfl, rx⟩ := pr1 rxs
    split at p
    · rename_i hv
      obtain ⟨_, us, rfl, q, pr⟩ := viewS_ok rl.rs rx hv
      exact .inl ⟨_, us.length, rfl, .inl ⟨us, q, rfl⟩, by rw [pr.length]; exact p.here rl rfl⟩
    · split at p
      · obtain ⟨_, us, rfl, q, pr⟩ := rx
        exact .inl ⟨_, us.length, rfl, .inr ⟨us, .of (rl.rs.same _ _ q), rfl⟩, by rw [pr.pair.length]; exact p.here rl rfl⟩
      · obtain ⟨_, us, rfl, q, pr⟩ := rx
        exact .inl ⟨_, us.length, rfl, .inr ⟨us, same_t rl.rs.same q, rfl⟩, by rw [pr.pair.length]; exact p.here rl rfl⟩
      · split at p
        · rename_i hl
          cases rx
          exact .inl ⟨_, _, rfl, ⟨SZ_le hl, rfl⟩, p.here rl rfl⟩
        · exact p.elim
      · obtain ⟨_, us, rfl, q, hl⟩ := dr_len rl.rs.same rx
        exact .inr (.inl ⟨_, us, rfl, q, by rw [hl]; exact p.here rl rfl⟩)
      · obtain ⟨_, us, rfl, q, hl⟩ := dr_lenT rl.rs.same rx
        exact .inr (.inr ⟨_, us, rfl, q, by rw [hl]; exact p.here rl rfl⟩)
      · split at p
        · rename_i hq
          obtain ⟨_, us, q, pr⟩ := rl.rs.cell _ _ hq
          rw [rx.2]
          exact .inr (.inl ⟨_, us, rfl, q, by rw [pr.length]; exact p.here rl rfl⟩)
        · rename_i hq
          obtain ⟨_, us, q, pr⟩ := rl.rs.cell _ _ hq
          rw [rx.2]
          exact .inr (.inr ⟨_, us, rfl, q, by rw [pr.length]; exact p.here rl rfl⟩)
        · rename_i hq
          obtain ⟨_, us, e, q, hl⟩ := dr_len rl.rs.same (rl.rs.cell _ _ hq).1
          rw [rx.2, e]
          exact .inr (.inl ⟨_, us, rfl, q, by rw [hl]; exact p.here rl rfl⟩)
        · rename_i hq
          obtain ⟨_, us, e, q, hl⟩ := dr_lenT rl.rs.same (rl.rs.cell _ _ hq).1
          rw [rx.2, e]
          exact .inr (.inr ⟨_, us, rfl, q, by rw [hl]; exact p.here rl rfl⟩)
        · exact p.elim
      · exact p.elim
  · exact p.elim
theorem gInt_ok : CallA c (fun xs H Q => (∃ i, xs = [.int i] ∧ Q (.int i) H) ∨ ∃ k, xs = [.bl k] ∧ Q (.int (if k then 1 else 0)) H) gInt := by
  intro w σa st σ H xs vs W Q rl rxs p
  unfold gInt at p
  split at p
  · obtain ⟨v, rfl, rx⟩ := pr1 rxs
    cases rx
    exact .inl ⟨_, rfl, p.here rl rfl⟩
  · obtain ⟨v, rfl, rx⟩ := pr1 rxs
    cases rx
    exact .inr ⟨_, rfl, p.here rl rfl⟩
  · exact p.elim
theorem gMax_ok : CallA c (fun xs H Q => ∃ i j, xs = [.int i, .int j] ∧ Q (.int (if j > i then j else i)) H) gMax := by
  intro w σa st σ H xs vs W Q rl rxs p
  unfold gMax at p
  split at p
  · obtain ⟨v, u, rfl, rx, ry⟩ := pr2 rxs
    cases rx
    cases ry
    exact ⟨_, _, rfl, p.here rl rfl⟩
  · exact p.elim
theorem gMin_ok : CallA c (fun xs H Q => ∃ i j, xs = [.int i, .int j] ∧ Q (.int (if j < i then j else i)) H) gMin := by
  intro w σa st σ H xs vs W Q rl rxs p
  unfold gMin at p
  split at p
  · obtain ⟨v, u, rfl, rx, ry⟩ := pr2 rxs
    cases rx
    cases ry
    exact ⟨_, _, rfl, p.here rl rfl⟩
  · exact p.elim
theorem gOrd_ok : CallA c (fun xs H Q => ∃ x, xs = [.str x] ∧ x.length = 1 ∧ Q (.int (x.cps.getD 0 0 : Nat)) H) gOrd := by
  intro w σa st σ H xs vs W Q rl rxs p
  unfold gOrd at p
  split at p
  · obtain ⟨v, rfl, rx⟩ := pr1 rxs
    cases rx
    split at p
    · rename_i h
      exact ⟨_, rfl, h, p.here rl rfl⟩
    · exact p.elim
  · exact p.elim
theorem gListOf_ok (k : Bool) : CallA c (fun xs H Q => ∃ p ys, xs = [.ref p] ∧ (SqL c.K H p ys ∨ SqT c.K H p ys) ∧ ∀ l, H l = none → Q (.ref l) (upd H l (.lst ys))) (gListOf k) := by
  intro w σa st σ H xs vs W Q rl rxs p
  unfold gListOf at p
  split at p
  · obtain ⟨v, rfl, rx⟩ := pr1 rxs
    split at p
    · rename_i hv
      obtain ⟨_, us, rfl, q, pr⟩ := viewS_ok rl.rs rx hv
      exact ⟨_, us, rfl, .inl q, (mkL_ok rl pr p).2⟩
    · split at p
      · rename_i hv
        obtain ⟨_, us, rfl, q, pr⟩ := viewT_ok rl.rs rx hv
        exact ⟨_, us, rfl, .inr q, (mkL_ok rl (ras_d pr) p).2⟩
      · exact p.elim
  · exact p.elim
theorem gTupOf_ok : CallA c (fun xs H Q => ∃ p ys, xs = [.ref p] ∧ ((SqL c.K H p ys ∧ ∀ l, H l = none → Q (.ref l) (upd H l (.tup ys))) ∨ (SqT c.K H p ys ∧ Q (.ref p) H))) gTupOf := by
  intro w σa st σ H xs vs W Q rl rxs p
  unfold gTupOf at p
  split at p
  · obtain ⟨v, rfl, rx⟩ := pr1 rxs
    split at p
    · rename_i x ds hv
      have rx0 := rx
      obtain ⟨a, us, rfl, q, pr⟩ := viewT_ok rl.rs rx hv
      exact ⟨_, us, rfl, .inr ⟨q, p.here rl rx0⟩⟩
    · split at p
      · rename_i hv
        obtain ⟨_, us, rfl, q, pr⟩ := viewS_ok rl.rs rx hv
        exact ⟨_, us, rfl, .inl ⟨q, (mkT_ok rl pr p).2⟩⟩
      · exact p.elim
  · exact p.elim
theorem e_len (ha : PA X (e :: []) (tMA c W fs)) (hm : c.mg "len" = none) (hgl : Gl X "len" := by rfl) (F : Fits X c := by exact ⟨rfl, rfl⟩) (he : starEach (e :: []) X.env = (false, eval e X.env) :: starEach [] X.env := by rfl) (hpl : (backTo pos (starEach [] X.env)).any (·.1) = false := by rfl) : PE X (.Call (.Name "len" p) [e] [] pos) (tM c W (mCallB gLen fs)) := by
  refine e_callB (r := rLenA2 c.K) ?_ gLen_ok hgl hm PySem.boot_len ha F (by decide) (by decide) he hpl
  rw [← F.K]
  exact CallR.or call_len (CallR.or call_lenD call_len_dT)
theorem e_intc (ha : PA X (e :: []) (tMA c W fs)) (hm : c.mg "int" = none) (hgl : Gl X "int" := by rfl) (F : Fits X c := by exact ⟨rfl, rfl⟩) (he : starEach (e :: []) X.env = (false, eval e X.env) :: starEach [] X.env := by rfl) (hpl : (backTo pos (starEach [] X.env)).any (·.1) = false := by rfl) : PE X (.Call (.Name "int" p) [e] [] pos) (tM c W (mCallB gInt fs)) :=
  e_callTy call_int1 gInt_ok hgl hm boot_int ha F (by decide) (by decide) he hpl
theorem e_max (hc : X.calm = true) (ha : PA X (a :: [b]) (tMA c W fs)) (hm : c.mg "max" = none) (hgl : Gl X "max" := by rfl) (F : Fits X c := by exact ⟨rfl, rfl⟩) (he : starEach (a :: [b]) X.env = (false, eval a X.env) :: starEach [b] X.env := by rfl) (hpl : (backTo pos (starEach [b] X.env)).any (·.1) = false := by rfl) : PE X (.Call (.Name "max" p) [a, b] [] pos) (tM c W (mCallB gMax fs)) :=
  e_callB (call_max2 hc) gMax_ok hgl hm (by decide +kernel) ha F (by decide) (by decide) he hpl
theorem e_min (hc : X.calm = true) (ha : PA X (a :: [b]) (tMA c W fs)) (hm : c.mg "min" = none) (hgl : Gl X "min" := by rfl) (F : Fits X c := by exact ⟨rfl, rfl⟩) (he : starEach (a :: [b]) X.env = (false, eval a X.env) :: starEach [b] X.env := by rfl) (hpl : (backTo pos (starEach [b] X.env)).any (·.1) = false := by rfl) : PE X (.Call (.Name "min" p) [a, b] [] pos) (tM c W (mCallB gMin fs)) :=
  e_callB (call_min2 hc) gMin_ok hgl hm (by decide +kernel) ha F (by decide) (by decide) he hpl
theorem e_ord (ha : PA X (e :: []) (tMA c W fs)) (hm : c.mg "ord" = none) (hgl : Gl X "ord" := by rfl) (F : Fits X c := by exact ⟨rfl, rfl⟩) (he : starEach (e :: []) X.env = (false, eval e X.env) :: starEach [] X.env := by rfl) (hpl : (backTo pos (starEach [] X.env)).any (·.1) = false := by rfl) : PE X (.Call (.Name "ord" p) [e] [] pos) (tM c W (mCallB gOrd fs)) :=
  e_callB call_ord gOrd_ok hgl hm (by decide +kernel) ha F (by decide) (by decide) he hpl
theorem e_listc (k : Bool) (ha : PA X (e :: []) (tMA c W fs)) (hm : c.mg "list" = none) (hgl : Gl X "list" := by rfl) (F : Fits X c := by exact ⟨rfl, rfl⟩) (he : starEach (e :: []) X.env = (false, eval e X.env) :: starEach [] X.env := by rfl) (hpl : (backTo pos (starEach [] X.env)).any (·.1) = false := by rfl) : PE X (.Call (.Name "list" p) [e] [] pos) (tM c W (mCallB (gListOf k) fs)) := by
  refine e_callTy (T := "list") (r := fun xs H Q => ∃ p ys, xs = [.ref p] ∧ (SqL c.K H p ys ∨ SqT c.K H p ys) ∧ ∀ l, H l = none → Q (.ref l) (upd H l (.lst ys))) ?_ (gListOf_ok k) hgl hm (by decide +kernel) ha F (by decide) (by decide) he hpl
  rw [← F.K]
  exact call_list_of
theorem e_tuplec (ha : PA X (e :: []) (tMA c W fs)) (hm : c.mg "tuple" = none) (hgl : Gl X "tuple" := by rfl) (F : Fits X c := by exact ⟨rfl, rfl⟩) (he : starEach (e :: []) X.env = (false, eval e X.env) :: starEach [] X.env := by rfl) (hpl : (backTo pos (starEach [] X.env)).any (·.1) = false := by rfl) : PE X (.Call (.Name "tuple" p) [e] [] pos) (tM c W (mCallB gTupOf fs)) := by
  refine e_callTy (T := "tuple") (r := fun xs H Q => ∃ p ys, xs = [.ref p] ∧ ((SqL c.K H p ys ∧ ∀ l, H l = none → Q (.ref l) (upd H l (.tup ys))) ∨ (SqT c.K H p ys ∧ Q (.ref p) H))) ?_ gTupOf_ok hgl hm (by decide +kernel) ha F (by decide) (by decide) he hpl
  rw [← F.K]
  exact call_tuple_of
end

/-! ### subscripts -/
theorem paired_at {α β : Type} {F : α → β → Prop} {l₁ : List α} {l₂ : List β} {i : Int} {b : β} (h : Paired F l₁ l₂) (e : atI l₂ i = some b) : ∃ a, atI l₁ i = some a ∧ F a b := by
  unfold atI at e ⊢
  obtain ⟨j, h1, h2⟩ := Option.bind_eq_some_iff.mp e
  obtain ⟨a, h3, r⟩ := paired_get h h2
  exact ⟨a, by rw [h.length, h1]; exact h3, r⟩
/-- a dict's pairs -/
def viewK (st : Store) : A → Option (List (Key × A))
  | .d (.dK ds) => some (ds.map fun p => (p.1, .d p.2))
  | .c i => match st[i]? with
    | some (.dK xs) => some xs
    | some (.fz (.dK ds)) => some (ds.map fun p => (p.1, .d p.2))
    | _ => none
  | _ => none
def viewDT (st : Store) : A → Option (List (List Key × A))
  | .d (.dT ds) => some (ds.map fun p => (p.1, .d p.2))
  | .c i => match st[i]? with
    | some (.dT xs) => some xs
    | some (.fz (.dT ds)) => some (ds.map fun p => (p.1, .d p.2))
    | _ => none
  | _ => none
/-- keys -/
def keyD : D → Option Key
  | .int i => some (.inl i)
  | .str x => some (.inr x)
  | _ => none
def keysD : List D → Option (List Key)
  | [] => some []
  | d :: ds => match keyD d, keysD ds with
    | some k, some ks => some (k :: ks)
    | _, _ => none
def kD : Key → D
  | .inl i => .int i
  | .inr x => .str x
theorem keyD_kD (k : Key) : keyD (kD k) = some k := by cases k <;> rfl
theorem keysD_map : ∀ ks : List Key, keysD (ks.map kD) = some ks
  | [] => rfl
  | k :: ks => by rw [List.map_cons, keysD, keyD_kD, keysD_map ks]
section
variable {c : Ctx} {w : Wd} {n : Nat} {σa : Slots} {st : Store} {σ : L2.St} {H : Hp} {W : WX}
theorem keyD_ok {G : Hp} : ∀ {d : D} {v : V} {k : Key}, DR c G d v → keyD d = some k → v = kV k := by
  intro d v k r h
  cases d with
  | int i => cases h; exact r
  | str x => cases h; exact r
  | _ => cases h
theorem keysD_ok {G : Hp} : ∀ {ds : List D} {vs : List V} {ks : List Key}, DRs c G ds vs → keysD ds = some ks → vs = ks.map kV
  | [], _, _, h, e => by cases e; exact h
  | d :: ds, _, _, ⟨v, r, h1, h2, h3⟩, e => by
    unfold keysD at e
    split at e
    · rename_i k ks e1 e2
      cases e
      rw [h1, keyD_ok h2 e1, keysD_ok h3 e2]
      rfl
    · cases e
theorem kas_d {κ : Type} {us : List (κ × V)} {ds : List (κ × D)} (h : Paired (KD fun v d => DR c w.G d v) us ds) : Paired (KD (RA c w n)) us (ds.map fun p => (p.1, .d p.2)) :=
  paired_map (F := KD (RA c w n)) (fun p : κ × D => (p.1, A.d p.2)) (paired_imp h fun _ _ q => q)
theorem viewK_ok (rl : RelS c w st H) : ∀ {x : A} {v : V} {xs : List (Key × A)}, RA c w st.length v x → viewK st x = some xs → ∃ a us, v = .ref a ∧ H a = some (.dK us) ∧ Paired (KD (RA c w st.length)) us xs
  | .d x, v, xs, r, h => by
    cases x with
    | dK ds =>
      cases h
      obtain ⟨a, us, rfl, e, p⟩ := r
      exact ⟨a, us, rfl, rl.same _ _ e, kas_d p.pair⟩
    | _ => cases h
  | .c i, v, xs, ⟨h1, h2⟩, h => by
    have h : (match st[i]? with | some (.dK xs) => some xs | some (.fz (.dK ds)) => some (ds.map fun p => (p.1, A.d p.2)) | _ => none) = some xs := h
    split at h
    · rename_i q
      cases h
      obtain ⟨_, us, e, p⟩ := rl.cell _ _ q
      exact ⟨_, us, h2, e, p⟩
    · rename_i q
      cases h
      obtain ⟨⟨a, us, e0, e, p⟩, _⟩ := rl.cell _ _ q
      cases e0
      exact ⟨_, us, h2, rl.same _ _ e, kas_d p.pair⟩
    · cases h
theorem viewDT_ok (rl : RelS c w st H) : ∀ {x : A} {v : V} {xs : List (List Key × A)}, RA c w st.length v x → viewDT st x = some xs → ∃ a us, v = .ref a ∧ H a = some (.dT us) ∧ Paired (KD (RA c w st.length)) us xs
  | .d x, v, xs, r, h => by
    cases x with
    | dT ds =>
      cases h
      obtain ⟨a, us, rfl, e, p⟩ := r
      exact ⟨a, us, rfl, rl.same _ _ e, kas_d p.pair⟩
    | _ => cases h
  | .c i, v, xs, ⟨h1, h2⟩, h => by
    have h : (match st[i]? with | some (.dT xs) => some xs | some (.fz (.dT ds)) => some (ds.map fun p => (p.1, A.d p.2)) | _ => none) = some xs := h
    split at h
    · rename_i q
      cases h
      obtain ⟨_, us, e, p⟩ := rl.cell _ _ q
      exact ⟨_, us, h2, e, p⟩
    · rename_i q
      cases h
      obtain ⟨⟨a, us, e0, e, p⟩, _⟩ := rl.cell _ _ q
      cases e0
      exact ⟨_, us, h2, rl.same _ _ e, kas_d p.pair⟩
    · cases h
end
end Am
/-! ### Am: subscripts, in, slices, stores, fields, methods -/
namespace Am
open PySem PySem.Spec PyProof.Rows L2
/-! tables -/
section
variable {κ α : Type} [DecidableEq κ]
def lookK (kvs : List (κ × α)) (k : κ) : Option α := (kvs.find? fun kv => decide (kv.1 = k)).map (·.2)
def putA (kvs : List (κ × α)) (k : κ) (v : α) : List (κ × α) :=
  if (kvs.any fun kv => decide (kv.1 = k)) = true then kvs.map (fun kv => if kv.1 = k then (kv.1, v) else kv) else kvs ++ [(k, v)]
def dropA (kvs : List (κ × α)) (k : κ) : List (κ × α) := kvs.filter fun kv => decide (kv.1 ≠ k)
variable {F : V → α → Prop}
theorem lookK_ok {k : κ} : ∀ {us : List (κ × V)} {xs : List (κ × α)}, Paired (KD F) us xs → (lookK xs k = none → valV us k = none) ∧ ∀ a, lookK xs k = some a → ∃ v, valV us k = some v ∧ F v a
  | _, _, .nil => ⟨fun _ => rfl, fun a h => by cases h⟩
  | _, _, .cons (a := (k1, v)) (b := (k2, x)) (l₂ := l2) ⟨e, r⟩ t => by
    have e : k1 = k2 := e
    subst e
    have ih := lookK_ok (k := k) t
    by_cases h : k1 = k
    · refine ⟨fun z => ?_, fun a z => ?_⟩
      · simp [lookK, List.find?_cons, h] at z
      · simp only [lookK, List.find?_cons, h, decide_true, Option.map_some] at z
        cases z
        exact ⟨v, valV_pos (p := (k1, v)) h, r⟩
    · have e1 : lookK ((k1, x) :: l2) k = lookK l2 k := by unfold lookK; rw [List.find?_cons]; simp only [h, decide_false]
      rw [e1, valV_neg (p := (k1, v)) h]
      exact ih
theorem any_ok {k : κ} : ∀ {us : List (κ × V)} {xs : List (κ × α)}, Paired (KD F) us xs → (us.any fun kv => decide (kv.1 = k)) = xs.any fun kv => decide (kv.1 = k)
  | _, _, .nil => rfl
  | _, _, .cons ⟨e, r⟩ t => by rw [List.any_cons, List.any_cons, e, any_ok t]
theorem paired_upd {k : κ} {v : V} {a : α} (r : F v a) : ∀ {us : List (κ × V)} {xs : List (κ × α)}, Paired (KD F) us xs → Paired (KD F) (us.map fun kv => if kv.1 = k then (kv.1, v) else kv) (xs.map fun kv => if kv.1 = k then (kv.1, a) else kv)
  | _, _, .nil => .nil
  | _, _, .cons (a := (k1, v1)) (b := (k2, x2)) ⟨e, q⟩ t => by
    have e : k1 = k2 := e
    subst e
    refine .cons ?_ (paired_upd r t)
    show KD F (if k1 = k then (k1, v) else (k1, v1)) (if k1 = k then (k1, a) else (k1, x2))
    by_cases z : k1 = k
    · rw [if_pos z, if_pos z]; exact ⟨rfl, r⟩
    · rw [if_neg z, if_neg z]; exact ⟨rfl, q⟩
theorem putA_ok {k : κ} {v : V} {a : α} (r : F v a) {us : List (κ × V)} {xs : List (κ × α)} (h : Paired (KD F) us xs) : Paired (KD F) (putK us k v) (putA xs k a) := by
  unfold putK putA
  rw [any_ok h]
  split
  · exact paired_upd r h
  · exact paired_append h (.cons ⟨rfl, r⟩ .nil)
theorem dropA_ok {k : κ} {us : List (κ × V)} {xs : List (κ × α)} (h : Paired (KD F) us xs) : Paired (KD F) (dropK us k) (dropA xs k) := by
  unfold dropK dropA
  induction h with
  | nil => exact .nil
  | @cons p q l1 l2 pq _ ih =>
    rw [List.filter_cons, List.filter_cons, pq.1]
    split
    · exact .cons pq ih
    · exact ih
end
/-! x[i] -/
def keysT (y : A) : Option (List Key) := match y with
  | .d (.tup ds) => keysD ds
  | _ => none
def keyA (y : A) : Option Key := match y with
  | .d d => keyD d
  | .c _ => none
noncomputable def gIx : A → A → Store → Res A := fun x y st => match x, y with
  | .d (.str z), .d (.int i) => match atI z.cps.toList i with
    | some k => ifc (z.length ≤ SZ) (.ok (.d (.str ⟨#[k]⟩)) st) .no
    | none => .no
  | x, y => match viewS st x with
    | some xs => match y with
      | .d (.int i) => match atI xs i with
        | some a => .ok a st
        | none => .no
      | _ => .no
    | none => match viewT x with
      | some ds => match y with
        | .d (.int i) => match atI ds i with
          | some a => .ok (.d a) st
          | none => .no
        | _ => .no
      | none => match viewK st x with
        | some kvs => match keyA y with
          | some k => match lookK kvs k with
            | some a => .ok a st
            | none => .no
          | none => .no
        | none => match viewDT st x with
          | some kvs => match keysT y with
            | some k => match lookK kvs k with
              | some a => .ok a st
              | none => .no
            | none => .no
          | none => .no
def rIxD : R2 := fun x y H Q => ∃ a v, x = .ref a ∧ DGet H a y (some v) ∧ Q v H
def rIxAll (K : PySem.W.Frag) : R2 := fun x y H Q => rIx K x y H Q ∨ rIxD x y H Q
section
variable {X : Cx} {c : Ctx} {W : WX} {a b e : Expr} {es : List Expr} {fa fb f : ME} {fs : MA} {p pos : Pos} {k : Nat}
theorem OpR.orIx {r r' : R2} (h : IxR X r) (h' : IxR X r') : IxR X (fun x y H Q => r x y H Q ∨ r' x y H Q) := by
  intro value slice pins s σ H x y v u Q I rx ry q
  rcases q with q | q
  · exact h value slice pins s σ H x y v u Q I rx ry q
  · exact h' value slice pins s σ H x y v u Q I rx ry q
theorem ix_dict (hu : X.A.units + 1 < cLine) : IxR X rIxD := by
  intro value slice pins s σ H x y v u Q I rx ry h hs
  obtain ⟨a, z, rfl, g, q⟩ := h
  obtain rfl : v = Value.ref a := rx
  have hT := dict_typeIs I g
  have h2 : wpAny (model X.prog X.w) X.A (getItem (.ref a) u) (EP X pins σ Q) X.xe s := d_getItem hu I g ry fun w' s3 I3 rw' => ⟨z, H, I3, rw', q⟩
  unfold subscriptTail
  refine wpAny_bind ?_
  rw [getitemInPython_of_ne hT.not_modules]
  refine wpAny_bind (wpAny_specialOf hT PySem.F.slot_dict_getitem.lookup ?_)
  have fin : wpAny (model X.prog X.w) X.A (subscripted slice false (.ref a) u) (fun r s₃ => wpAny (model X.prog X.w) X.A (letTemporaryGo value (.ref a) r >>= fun _ => pure r) (EP X pins σ Q) X.xe s₃) X.xe s := by
    rw [hs]
    exact wpAny_operating (wpAny_mono h2 (fun r s₃ h₃ => wpAny_bind (wpAny_letTemporaryGo (wpAny_pure h₃))) fun _ _ x => x)
  first
    | exact wpAny_pure (wpAny_bind fin)
    | exact wpAny_bind (wpAny_pure (wpAny_bind fin))
    | exact wpAny_bind fin
theorem keyA_ok {w : Wd} {n : Nat} {y : A} {u : V} {k : Key} (r : RA c w n u y) (h : keyA y = some k) : u = kV k := by
  cases y with
  | d x => exact keyD_ok r h
  | c i => cases h
theorem keysT_ok {w : Wd} {n : Nat} {H : Hp} (sm : Same w.G H) {y : A} {u : V} {k : List Key} (r : RA c w n u y) (h : keysT y = some k) : ∃ b, u = .ref b ∧ H b = some (.tup (k.map kV)) := by
  unfold keysT at h
  split at h
  · obtain ⟨b, vs, rfl, e, p⟩ := r
    rw [keysD_ok p h] at e
    exact ⟨b, rfl, sm _ _ e⟩
  · cases h
theorem gIx_ok : OpA c (rIxAll c.K) gIx := by
  intro w σa st σ H x y v u W Q rl rx ry p
  unfold gIx at p
  simp only [ifc] at p
  split at p
  · split at p
    · rename_i hk
      split at p
      · rename_i hz
        exact .inl (.inr (.inr ⟨_, _, _, rx, ry, SZ_le hz, hk, p.here rl rfl⟩))
      · exact p.elim
    · exact p.elim
  · split at p
    · rename_i hv
      obtain ⟨_, us, rfl, q, pr⟩ := viewS_ok rl.rs rx hv
      split at p
      · split at p
        · rename_i ha
          obtain ⟨z, e, r⟩ := paired_at pr ha
          exact .inl (.inl ⟨_, us, _, z, rfl, ry, q, e, p.here rl r⟩)
        · exact p.elim
      · exact p.elim
    · split at p
      · rename_i hv
        obtain ⟨_, us, rfl, q, pr⟩ := viewT_ok rl.rs rx hv
        split at p
        · split at p
          · rename_i ha
            obtain ⟨z, e, r⟩ := paired_at pr.pair ha
            exact .inl (.inr (.inl ⟨_, us, _, z, rfl, ry, q, e, p.here rl r⟩))
          · exact p.elim
        · exact p.elim
      · split at p
        · rename_i hv
          obtain ⟨_, us, rfl, q, pr⟩ := viewK_ok rl.rs rx hv
          split at p
          · rename_i hk
            split at p
            · rename_i ha
              obtain ⟨z, e, r⟩ := (lookK_ok pr).2 _ ha
              have := keyA_ok ry hk
              subst this
              exact .inr ⟨_, z, rfl, by rw [← e]; exact .k q, p.here rl r⟩
            · exact p.elim
          · exact p.elim
        · split at p
          · rename_i hv
            obtain ⟨_, us, rfl, q, pr⟩ := viewDT_ok rl.rs rx hv
            split at p
            · rename_i hk
              split at p
              · rename_i ha
                obtain ⟨z, e, r⟩ := (lookK_ok pr).2 _ ha
                obtain ⟨b, rfl, eb⟩ := keysT_ok rl.rs.same ry hk
                exact .inr ⟨_, z, rfl, by rw [← e]; exact .t q eb, p.here rl r⟩
              · exact p.elim
            · exact p.elim
          · exact p.elim
theorem ix_all (hr : Room k X.A) (F : Fits X c) : IxR X (rIxAll c.K) := by rw [← F.K]; exact OpR.orIx ix_seq (ix_dict (hu_of hr))
theorem e_ix (hr : Room k X.A) (ha : PE X a (tM c W fa)) (hb : PE X b (tM c W fb)) (hs : PlainIx b := by exact fun _ _ => rfl) (F : Fits X c := by exact ⟨rfl, rfl⟩) : PE X (.Subscript a b pos) (tM c W (mBin gIx fa fb)) :=
  pe_imp (pe_ix (ix_all hr F) ha hb hs) (entail_op gIx_ok)
end
/-! in -/
def flatD : D → Bool
  | .non => true
  | .bl _ => true
  | .int _ => true
  | .str _ => true
  | _ => false
def dV : D → V
  | .bl b => .bl b
  | .int i => .int i
  | .str x => .str x
  | _ => .non
def allFlat (xs : List A) : Option (List D) := (allD xs).bind fun ds => if ds.all flatD then some ds else none
def gIn (neg : Bool) : A → A → Store → Res A := fun y x st => match y, x with
  | .d (.str i), .d (.str j) => .ok (.d (.bl (if neg then !(!(Builtin.Str.occurrences j i 0 j.length 1).isEmpty) else !(Builtin.Str.occurrences j i 0 j.length 1).isEmpty))) st
  | y, x => match viewK st x with
    | some kvs => match keyA y with
      | some k => .ok (.d (.bl (if neg then !(lookK kvs k).isSome else (lookK kvs k).isSome))) st
      | none => .no
    | none => match viewDT st x with
      | some kvs => match keysT y with
        | some k => .ok (.d (.bl (if neg then !(lookK kvs k).isSome else (lookK kvs k).isSome))) st
        | none => .no
      | none => match (match viewS st x with | some xs => some xs | none => (viewT x).map fun ds => ds.map A.d) with
        | some xs => match allFlat xs, y with
          | some ds, .d d => if flatD d then .ok (.d (.bl (if neg then !inV (dV d) (ds.map dV) else inV (dV d) (ds.map dV)))) st else .no
          | _, _ => .no
        | none => .no
def rInS (neg : Bool) : R2 := fun x y H Q => ∃ i j, x = .str i ∧ y = .str j ∧ Q (.bl (if neg then !(!(Builtin.Str.occurrences j i 0 j.length 1).isEmpty) else !(Builtin.Str.occurrences j i 0 j.length 1).isEmpty)) H
def rInD (neg : Bool) : R2 := fun y x H Q => ∃ a o, x = .ref a ∧ DGet H a y o ∧ Q (.bl (if neg then !o.isSome else o.isSome)) H
def rInAll (K : PySem.W.Frag) (neg : Bool) : R2 := fun x y H Q => rInS neg x y H Q ∨ (rInD neg x y H Q ∨ rIn K neg x y H Q)
section
variable {X : Cx} {c : Ctx} {W : WX} {a b e : Expr} {es : List Expr} {fa fb f : ME} {fs : MA} {p pos : Pos} {k : Nat}
theorem flat_ok {G : Hp} : ∀ {d : D} {v : V}, DR c G d v → flatD d = true → v = dV d ∧ flatV v = true := by
  intro d v r h
  cases d with
  | non => cases r; exact ⟨rfl, rfl⟩
  | bl _ => cases r; exact ⟨rfl, rfl⟩
  | int _ => cases r; exact ⟨rfl, rfl⟩
  | str _ => cases r; exact ⟨rfl, rfl⟩
  | _ => cases h
theorem flats_ok {G : Hp} : ∀ {ds : List D} {vs : List V}, DRs c G ds vs → ds.all flatD = true → vs = ds.map dV ∧ vs.all flatV = true
  | [], _, h, _ => by cases h; exact ⟨rfl, rfl⟩
  | d :: ds, _, ⟨v, r, h1, h2, h3⟩, e => by
    rw [List.all_cons, Bool.and_eq_true] at e
    obtain ⟨e1, e2⟩ := flat_ok h2 e.1
    obtain ⟨e3, e4⟩ := flats_ok h3 e.2
    subst h1
    exact ⟨by rw [e1, e3]; rfl, by rw [List.all_cons, e2, e4]; rfl⟩
theorem allFlat_ok {w : Wd} {n : Nat} {xs : List A} {vs : List V} {ds : List D} (r : Paired (RA c w n) vs xs) (h : allFlat xs = some ds) : vs = ds.map dV ∧ vs.all flatV = true := by
  unfold allFlat at h
  obtain ⟨ds', h1, h2⟩ := Option.bind_eq_some_iff.mp h
  split at h2
  · rename_i hf
    cases h2
    rw [allD_eq h1] at r
    exact flats_ok (ras_of_d r) hf
  · cases h2
theorem gIn_ok (neg : Bool) : OpA c (rInAll c.K neg) (gIn neg) := by
  intro w σa st σ H x y v u W Q rl rx ry p
  unfold gIn at p
  split at p
  · exact .inl ⟨_, _, rx, ry, p.here rl rfl⟩
  · split at p
    · rename_i kvs hv
      obtain ⟨_, us, rfl, q, pr⟩ := viewK_ok rl.rs ry hv
      split at p
      · rename_i k hk
        have := keyA_ok rx hk
        subst this
        refine .inr (.inl ⟨_, valV us k, rfl, .k q, p.here rl ?_⟩)
        have e : (valV us k).isSome = (lookK kvs k).isSome := by
          cases hl : lookK kvs k with
          | none => rw [(lookK_ok pr).1 hl]; rfl
          | some a => obtain ⟨z, e, _⟩ := (lookK_ok pr).2 _ hl; rw [e]; rfl
        rw [e]
        rfl
      · exact p.elim
    · split at p
      · rename_i kvs hv
        obtain ⟨_, us, rfl, q, pr⟩ := viewDT_ok rl.rs ry hv
        split at p
        · rename_i k hk
          obtain ⟨b, rfl, eb⟩ := keysT_ok rl.rs.same rx hk
          refine .inr (.inl ⟨_, valV us k, rfl, .t q eb, p.here rl ?_⟩)
          have e : (valV us k).isSome = (lookK kvs k).isSome := by
            cases hl : lookK kvs k with
            | none => rw [(lookK_ok pr).1 hl]; rfl
            | some a => obtain ⟨z, e, _⟩ := (lookK_ok pr).2 _ hl; rw [e]; rfl
          rw [e]
          rfl
        · exact p.elim
      · split at p
        · rename_i xs hv
          have hx : ∃ a vs, u = .ref a ∧ (SqL c.K H a vs ∨ SqT c.K H a vs) ∧ Paired (RA c w st.length) vs xs := by
            split at hv
            · rename_i hs
              cases hv
              obtain ⟨a, vs, e, q, pr⟩ := viewS_ok rl.rs ry hs
              exact ⟨a, vs, e, .inl q, pr⟩
            · obtain ⟨ds, hs, rfl⟩ := Option.map_eq_some_iff.mp hv
              obtain ⟨a, vs, e, q, pr⟩ := viewT_ok rl.rs ry hs
              exact ⟨a, vs, e, .inr q, ras_d pr⟩
          obtain ⟨a, vs, rfl, q, pr⟩ := hx
          split at p
          · rename_i ds d hf _
            split at p
            · rename_i hd
              obtain ⟨e1, e2⟩ := allFlat_ok pr hf
              obtain ⟨e3, e4⟩ := flat_ok rx hd
              refine .inr (.inr ⟨_, vs, rfl, q, e4, e2, ?_⟩)
              rw [e1, e3]
              exact p.here rl rfl
            · exact p.elim
          · exact p.elim
        · exact p.elim
theorem op_inD (hu : X.A.units + 1 < cLine) : OpR X (compareOp .In) (rInD false) := by
  intro pins s σ H y x iv u Q I ry rx h
  obtain ⟨a, o, rfl, g, q⟩ := h
  obtain rfl : u = Value.ref a := rx
  exact d_in hu I g ry fun s3 I3 => ⟨.bl o.isSome, H, I3, rfl, q⟩
theorem op_notInD (hu : X.A.units + 1 < cLine) : OpR X (compareOp .NotIn) (rInD true) := by
  intro pins s σ H y x iv u Q I ry rx h
  obtain ⟨a, o, rfl, g, q⟩ := h
  obtain rfl : u = Value.ref a := rx
  exact d_notIn hu I g ry fun s3 I3 => ⟨.bl (!o.isSome), H, I3, rfl, q⟩
theorem op_inAll (hr : Room k X.A) (F : Fits X c) : OpR X (compareOp .In) (rInAll c.K false) := by
  rw [← F.K]
  exact OpR.or (show OpR X (compareOp .In) (rInS false) from op_in_str) (OpR.or (op_inD (hu_of hr)) op_in_seq)
theorem op_notInAll (hr : Room k X.A) (F : Fits X c) : OpR X (compareOp .NotIn) (rInAll c.K true) := by
  rw [← F.K]
  exact OpR.or (show OpR X (compareOp .NotIn) (rInS true) from op_notin_str) (OpR.or (op_notInD (hu_of hr)) op_notIn_seq)
theorem e_in (hr : Room k X.A) (ha : PE X a (tM c W fa)) (hb : PE X b (tM c W fb)) (hm : behindInMarks .In b = false := by rfl) (F : Fits X c := by exact ⟨rfl, rfl⟩) : PE X (.Compare a [.In] [b] pos) (tM c W (mBin (gIn false) fa fb)) := e_cmp (op_inAll hr F) (gIn_ok _) ha hb hm
theorem t_in (hr : Room k X.A) (ha : PE X a (tM c W fa)) (hb : PE X b (tM c W fb)) (hm : behindInMarks .In b = false := by rfl) (F : Fits X c := by exact ⟨rfl, rfl⟩) : PT X (.Compare a [.In] [b] pos) (tT c W (mTst (mBin (gIn false) fa fb))) := t_cmp (op_inAll hr F) (gIn_ok _) ha hb hm
theorem e_notin (hr : Room k X.A) (ha : PE X a (tM c W fa)) (hb : PE X b (tM c W fb)) (hm : behindInMarks .NotIn b = false := by rfl) (F : Fits X c := by exact ⟨rfl, rfl⟩) : PE X (.Compare a [.NotIn] [b] pos) (tM c W (mBin (gIn true) fa fb)) := e_cmp (op_notInAll hr F) (gIn_ok _) ha hb hm
theorem t_notin (hr : Room k X.A) (ha : PE X a (tM c W fa)) (hb : PE X b (tM c W fb)) (hm : behindInMarks .NotIn b = false := by rfl) (F : Fits X c := by exact ⟨rfl, rfl⟩) : PT X (.Compare a [.NotIn] [b] pos) (tT c W (mTst (mBin (gIn true) fa fb))) := t_cmp (op_notInAll hr F) (gIn_ok _) ha hb hm
end
/-! slices -/
abbrev MO := Slots → Store → Res (Option Int)
def mNoPart : MO := fun _ st => .ok none st
def mPart (f : ME) : MO := fun σ st => (f σ st).bind fun a st1 => match a with
  | .d (.int i) => .ok (some i) st1
  | _ => .no
def cutA {α : Type} (xs : List α) (lo hi : Option Int) : List α := (xs.drop (HT.sIx xs.length 0 lo)).take (HT.sIx xs.length xs.length hi - HT.sIx xs.length 0 lo)
noncomputable def gSl (k : Bool) (x : A) (lo hi : Option Int) (st : Store) : Res A := match x with
  | .d (.str z) => ifc (z.length ≤ SZ) (.ok (.d (.str (cutS z lo hi))) st) .no
  | x => match viewS st x with
    | some xs => mkL k (cutA xs lo hi) st
    | none => match x with
      | .d (.tup ds) => mkT ((cutA ds lo hi).map .d) st
      | _ => .no
noncomputable def mSl (k : Bool) (f : ME) (l u : MO) : ME := fun σ st => (f σ st).bind fun x st1 => (l σ st1).bind fun lo st2 => (u σ st2).bind fun hi st3 => gSl k x lo hi st3
def tMO (c : Ctx) (W : WX) (f : MO) : TO := fun σ H Q => ∃ w σa st, Rel c w σa st σ H ∧ Post c w st.length σa σ (fun _ _ b b' => b = b') W Q (f σa st)
def rSlAll (K : PySem.W.Frag) : V → Option Int → Option Int → Hp → VK → Prop := fun x lo hi H Q => rSlS x lo hi H Q ∨ (rSlL K x lo hi H Q ∨ rSlA K x lo hi H Q)
section
variable {X : Cx} {c : Ctx} {W : WX} {a b e : Expr} {es : List Expr} {lo hi : Option Expr} {fl fh : MO} {fa fb f : ME} {fs : MA} {p p2 pos : Pos}
theorem o_none : PO X none (tMO c W mNoPart) := ⟨fun pins s σ H Q I ⟨w, σa, st, rl, p⟩ => po_none.run pins s σ H Q I (p.here rl rfl)⟩
theorem o_some (h : PE X e (tM c W f)) : PO X (some e) (tMO c W (mPart f)) := ⟨fun pins s σ H Q I ⟨w, σa, st, rl, p⟩ => (po_some h).run pins s σ H Q I ⟨w, σa, st, rl, p.bind fun v x st1 w1 H1 _ rl1 rx p1 => by
  split at p1
  · exact ⟨_, rx, p1.here rl1 rfl⟩
  · exact p1.elim⟩⟩
theorem paired_cut {α β : Type} {F : α → β → Prop} {l₁ : List α} {l₂ : List β} (h : Paired F l₁ l₂) (lo hi : Option Int) : Paired F (cutA l₁ lo hi) (cutA l₂ lo hi) := by
  unfold cutA
  rw [h.length]
  exact paired_take _ (paired_drop _ h)
theorem cutA_whole {α : Type} {xs : List α} {lo hi : Option Int} (h : HT.sIx xs.length 0 lo = 0 ∧ HT.sIx xs.length xs.length hi = xs.length) : cutA xs lo hi = xs := by
  unfold cutA
  rw [h.1, h.2, List.drop_zero, Nat.sub_zero, List.take_length]
theorem sl_all (F : Fits X c) : SlR X (rSlAll c.K) := by rw [← F.K]; exact SlR.or sl_str (SlR.or sl_list sl_tupA)
theorem gSl_ok {k : Bool} {w : Wd} {σa : Slots} {st : Store} {σ : L2.St} {H : Hp} {x : A} {v : V} {l h : Option Int} {Q : VK} (rl : Rel c w σa st σ H) (rx : RA c w st.length v x) (p : Post c w st.length σa σ (RA c) W Q (gSl k x l h st)) : rSlAll c.K v l h H Q := by
  unfold gSl at p
  simp only [ifc] at p
  split at p
  · split at p
    · rename_i hz
      exact .inl ⟨_, rx, SZ_le hz, p.here rl rfl⟩
    · exact p.elim
  · split at p
    · rename_i hv
      obtain ⟨_, us, rfl, q, pr⟩ := viewS_ok rl.rs rx hv
      exact .inr (.inl ⟨_, us, rfl, q, (mkL_ok rl (paired_cut pr l h) p).2⟩)
    · split at p
      · have rx0 := rx
        obtain ⟨a, us, rfl, q, pr⟩ := rx
        have hl := pr.pair.length
        refine .inr (.inr ⟨_, us, rfl, .of (rl.rs.same _ _ q), fun z => ?_, fun _ => (mkT_ok rl (ras_d (DRs.of (paired_cut pr.pair l h))) p).2⟩)
        rw [hl] at z
        rw [cutA_whole z] at p
        obtain ⟨_, p⟩ := mkT_data p
        exact p.here rl rx0
      · exact p.elim
theorem e_sl (k : Bool) (he : PE X e (tM c W f)) (hl : PO X lo (tMO c W fl)) (hu : PO X hi (tMO c W fh)) (F : Fits X c := by exact ⟨rfl, rfl⟩) : PE X (.Subscript e (.Slice lo hi none p2) pos) (tM c W (mSl k f fl fh)) :=
  pe_imp (pe_slice (sl_all F) he hl hu) fun σ H Q ⟨w, σa, st, rl, p⟩ => ⟨w, σa, st, rl, p.bind fun v x st1 w1 H1 _ rl1 rx p1 => ⟨w1, σa, st1, rl1, p1.bind fun l l' st2 w2 H2 e2 rl2 r2 p2 => ⟨w2, σa, st2, rl2, p2.bind fun u u' st3 w3 H3 e3 rl3 r3 p3 => by
    subst r2 r3
    exact gSl_ok rl3 ((rx.ext e2).ext e3) p3⟩⟩⟩
/-- xs[::-1] -/
noncomputable def gRev (k : Bool) (x : A) (st : Store) : Res A := match viewS st x with
  | some xs => mkL k xs.reverse st
  | none => .no
theorem e_rev (k : Bool) {n : Nat} {p1 p2 p3 pos : Pos} (he : PE X e (tM c W f)) (F : Fits X c := by exact ⟨rfl, rfl⟩) : PE X (.Subscript e (.Slice none none (some (.UnaryOp .USub (.Constant (.int 1) n p1) p2)) p3) pos) (tM c W (mUn (gRev k) f)) :=
  pe_imp (pe_revL he) fun σ H Q ⟨w, σa, st, rl, p⟩ => ⟨w, σa, st, rl, p.bind fun v x st1 w1 H1 _ rl1 rx p1 => by
    unfold gRev at p1
    split at p1
    · rename_i hv
      obtain ⟨_, us, rfl, q, pr⟩ := viewS_ok rl1.rs rx hv
      exact ⟨_, us, rfl, by rw [F.K]; exact q, (mkL_ok rl1 (paired_reverse pr) p1).2⟩
    · exact p1.elim⟩
end
end Am
/-! ### Am: freezing, methods of lists, statements -/
namespace Am
open PySem PySem.Spec PyProof.Rows L2
/-! ### a cell becomes data -/
section
variable {c : Ctx} {w : Wd} {n : Nat} {σa : Slots} {st : Store} {σ : L2.St} {H : Hp} {W : WX}
theorem RelS.freeze (r : RelS c w st H) {i : Nat} {x : Cell} {d : D} {o : HO} (h : st[i]? = some x) (g : w.G (w.E i) = none) (ho : H (w.E i) = some o) (hd : DR c (upd w.G (w.E i) o) d (.ref (w.E i))) : RelS c (w.put (w.E i) o) (st.set i (.fz d)) H where
  same := fun b y e => by
    have e : upd w.G (w.E i) o b = some y := e
    by_cases hb : b = w.E i
    · subst hb; rw [upd_same] at e; rw [← e]; exact ho
    · rw [upd_ne hb] at e; exact r.same b y e
  inj := fun j k hj hk => by
    rw [List.length_set] at hj hk
    exact r.inj j k hj hk
  cell := fun j y hj => by
    rw [List.length_set]
    by_cases e : j = i
    · subst e
      rw [List.getElem?_set_self (RelS.lt h)] at hj
      cases hj
      exact ⟨hd, by show H (w.E j) ≠ none; rw [ho]; exact fun z => nomatch z⟩
    · rw [List.getElem?_set_ne (Ne.symm e)] at hj
      have ne : w.E j ≠ w.E i := fun q => e (r.inj j i (RelS.lt hj) (RelS.lt h) q)
      exact (r.cell j y hj).stay (w.put_ext g) (fun q => by show upd w.G (w.E i) o (w.E j) = none; rw [upd_ne ne]; exact q) rfl
theorem Rel.freeze (r : Rel c w σa st σ H) {i : Nat} {x : Cell} {d : D} {o : HO} (h : st[i]? = some x) (g : w.G (w.E i) = none) (ho : H (w.E i) = some o) (hd : DR c (upd w.G (w.E i) o) d (.ref (w.E i))) : Rel c (w.put (w.E i) o) σa (st.set i (.fz d)) σ H :=
  ⟨r.rs.freeze h g ho hd, r.len, fun j a hj => let ⟨v, e, q⟩ := r.sl j a hj; ⟨v, e, by rw [List.length_set]; exact q.ext (w.put_ext g)⟩⟩
end
/-- a cell's data, if all in it are data -/
def pairsD {κ : Type} : List (κ × A) → Option (List (κ × D))
  | [] => some []
  | (k, .d x) :: r => (pairsD r).map ((k, x) :: ·)
  | (_, .c _) :: _ => none
theorem pairsD_eq {κ : Type} : ∀ {xs : List (κ × A)} {ds : List (κ × D)}, pairsD xs = some ds → xs = ds.map fun p => (p.1, .d p.2)
  | [], _, h => by cases h; rfl
  | (k, .d x) :: r, ds, h => by
    rw [pairsD] at h
    obtain ⟨r', h1, rfl⟩ := Option.map_eq_some_iff.mp h
    rw [pairsD_eq h1]; rfl
  | (_, .c _) :: _, _, h => by cases h
theorem pairsD_map {κ : Type} : ∀ (ds : List (κ × D)), pairsD (ds.map fun p => (p.1, A.d p.2)) = some ds
  | [] => rfl
  | (k, x) :: xs => by rw [List.map_cons, pairsD, pairsD_map xs]; rfl
def cellD : Cell → Option D
  | .lst xs => (allD xs).map .list
  | .dK xs => (pairsD xs).map .dK
  | .dT xs => (pairsD xs).map .dT
  | .ins x fs => (pairsD fs).map (.ins x)
  | .fz x => some x
/-- freeze: the value as data -/
def frz (a : A) (st : Store) : Res A := match a with
  | .d x => .ok (.d x) st
  | .c i => match st[i]? with
    | some (.fz x) => .ok (.d x) st
    | some x => match cellD x with
      | some d => .ok (.d d) (st.set i (.fz d))
      | none => .no
    | none => .no
def mFrz (f : ME) : ME := fun σ st => (f σ st).bind frz
section
variable {c : Ctx} {w : Wd} {n : Nat} {σa : Slots} {st : Store} {σ : L2.St} {H : Hp} {W : WX} {X : Cx} {e : Expr} {f : ME}
theorem kas_of_d {κ : Type} {us : List (κ × V)} {ds : List (κ × D)} (h : Paired (KD (RA c w n)) us (ds.map fun p => (p.1, .d p.2))) : Paired (KD fun v d => DR c w.G d v) us ds :=
  paired_imp (paired_unmap (fun p : κ × D => (p.1, A.d p.2)) h) fun _ _ q => q
/-- a live cell's object as data -/
theorem cell_live (rl : RelS c w st H) {i : Nat} {x : Cell} {d : D} (h : st[i]? = some x) (nf : ∀ y, x ≠ .fz y) (hd : cellD x = some d) : w.G (w.E i) = none ∧ ∃ o, H (w.E i) = some o ∧ DR c (upd w.G (w.E i) o) d (.ref (w.E i)) := by
  have cr := rl.cell i x h
  cases x with
  | lst xs =>
    obtain ⟨ds, h1, rfl⟩ := Option.map_eq_some_iff.mp hd
    obtain ⟨g, vs, e, p⟩ := cr
    rw [allD_eq h1] at p
    exact ⟨g, _, e, _, vs, rfl, upd_same, (ras_of_d p).same (same_upd g)⟩
  | dK xs =>
    obtain ⟨ds, h1, rfl⟩ := Option.map_eq_some_iff.mp hd
    obtain ⟨g, vs, e, p⟩ := cr
    rw [pairsD_eq h1] at p
    exact ⟨g, _, e, _, vs, rfl, upd_same, (DRk.of (kas_of_d p)).same (same_upd g)⟩
  | dT xs =>
    obtain ⟨ds, h1, rfl⟩ := Option.map_eq_some_iff.mp hd
    obtain ⟨g, vs, e, p⟩ := cr
    rw [pairsD_eq h1] at p
    exact ⟨g, _, e, _, vs, rfl, upd_same, (DRt.of (kas_of_d p)).same (same_upd g)⟩
  | ins y fs =>
    obtain ⟨ds, h1, rfl⟩ := Option.map_eq_some_iff.mp hd
    obtain ⟨g, C, dx, us, e, m, p⟩ := cr
    rw [pairsD_eq h1] at p
    exact ⟨g, _, e, _, C, dx, us, rfl, upd_same, m, (DRf.of (kas_of_d p)).same (same_upd g)⟩
  | fz y => exact absurd rfl (nf y)
theorem frz_ok {a : A} {v : V} {Q : VK} (rl : Rel c w σa st σ H) (r : RA c w st.length v a) (p : Post c w st.length σa σ (RA c) W Q (frz a st)) : Q v H := by
  cases a with
  | d x => exact p.here rl r
  | c i =>
    obtain ⟨hi, rfl⟩ := r
    have p : Post c w st.length σa σ (RA c) W Q (match st[i]? with | some (.fz x) => .ok (.d x) st | some x => (match cellD x with | some d => .ok (.d d) (st.set i (.fz d)) | none => .no) | none => .no) := p
    split at p
    · rename_i h
      exact p.here rl (rl.rs.cell _ _ h).1
    · rename_i x nf h
      split at p
      · rename_i d hd
        obtain ⟨g, o, ho, hr⟩ := cell_live rl.rs h (fun y z => nf y (by rw [z])) hd
        refine p _ _ _ ?_ (rl.freeze h g ho hr) hr
        rw [List.length_set]
        exact w.put_ext g
      · exact p.elim
    · exact p.elim
theorem e_frz (h : PE X e (tM c W f)) : PE X e (tM c W (mFrz f)) := pe_imp h fun σ H Q ⟨w, σa, st, rl, p⟩ => ⟨w, σa, st, rl, p.bind fun v x st1 w1 H1 _ rl1 rx p1 => frz_ok rl1 rx p1⟩
end
/-! ### methods of lists -/
abbrev GM := A → List A → Store → Res A
def MtA (c : Ctx) (r : V → List V → Hp → VK → Prop) (g : GM) : Prop := ∀ (w : Wd) (σa : Slots) (st : Store) (σ : L2.St) (H : Hp) (x : A) (v : V) (xs : List A) (vs : List V) (W : WX) (Q : VK),
  Rel c w σa st σ H → RA c w st.length v x → Paired (RA c w st.length) vs xs → Post c w st.length σa σ (RA c) W Q (g x xs st) → r v vs H Q
def mMethL (g : GM) (f : ME) (fs : MA) : ME := fun σ st => (f σ st).bind fun x st1 => match viewS st1 x with
  | some _ => (fs σ st1).bind fun xs st2 => g x xs st2
  | none => .no
noncomputable def gAppend : GM
  | .c i, [y], st => match st[i]? with
    | some (.lst xs) => ifc (xs.length < SZ) (.ok (.d .non) (st.set i (.lst (xs ++ [y])))) .no
    | _ => .no
  | _, _, _ => .no
noncomputable def gExtend : GM
  | .c i, [y], st => match st[i]? with
    | some (.lst xs) => match viewL st y with
      | some ys => ifc (xs.length + ys.length ≤ SZ) (.ok (.d .non) (st.set i (.lst (xs ++ ys)))) .no
      | none => .no
    | _ => .no
  | _, _, _ => .no
noncomputable def gPopAt : GM
  | .c i, [.d (.int j)], st => match st[i]? with
    | some (.lst xs) => match ixN xs.length j with
      | some k => match xs[k]? with
        | some y => ifc (-(2 ^ 63) ≤ j ∧ j < 2 ^ 63) (.ok y (st.set i (.lst (xs.eraseIdx k)))) .no
        | none => .no
      | none => .no
    | _ => .no
  | _, _, _ => .no
def gIndex : GM := fun x ys st => match viewS st x, ys with
  | some xs, [.d d] => match allFlat xs with
    | some ds => if flatD d then match ds.findIdx? (fun z => eqV (dV z) (dV d)) with
        | some j => .ok (.d (.int (j : Nat))) st
        | none => .no
      else .no
    | none => .no
  | _, _ => .no
theorem paired_erase {α β : Type} {F : α → β → Prop} : ∀ {l₁ : List α} {l₂ : List β}, Paired F l₁ l₂ → ∀ k : Nat, Paired F (l₁.eraseIdx k) (l₂.eraseIdx k)
  | _, _, .nil, _ => .nil
  | _, _, .cons _ t, 0 => t
  | _, _, .cons r t, k + 1 => .cons r (paired_erase t k)
section
variable {X : Cx} {c : Ctx} {W : WX} {o e : Expr} {es : List Expr} {f : ME} {fs : MA} {apos cpos : Pos}
theorem entail_mt {r : V → List V → Hp → VK → Prop} {g : GM} (hg : MtA c r g) (σ : L2.St) (H : Hp) (Q : VK) : tM c W (mMethL g f fs) σ H Q → tBM c.K "list" r (tM c W f) (tMA c W fs) σ H Q := fun ⟨w, σa, st, rl, p⟩ =>
  ⟨w, σa, st, rl, p.bind fun v x st1 w1 H1 _ rl1 rx p1 => by
    split at p1
    · rename_i hv
      obtain ⟨a, us, rfl, q, pr⟩ := viewS_ok rl1.rs rx hv
      refine ⟨.inl ⟨rfl, us, q⟩, ⟨w1, σa, st1, rl1, p1.bind fun vs xs st2 w2 H2 e2 rl2 rxs p2 => hg w2 σa st2 σ H2 x _ xs vs W Q rl2 (rx.ext e2) rxs p2⟩⟩
    · exact p1.elim⟩
theorem e_methL {id : String} {name : Str} {r : V → List V → Hp → VK → Prop} {g : GM} (slot : Slot "list" name id) (hty : typeOf (.builtin id) = pure (.type "method_descriptor")) (hm : MtR X id r) (hg : MtA c r g) (ho : PE X o (tM c W f)) (ha : PA X (e :: es) (tMA c W fs)) (F : Fits X c)
    (hbase : attributeBase o name X.env (eval o X.env) = eval o X.env := by rfl)
    (hfew : ((backTo cpos (starEach (e :: es) X.env)).all (fun x => !x.1) && (backToKw cpos (keywordEach [] X.env)).all (fun x => x.1.isSome)
      && decide ((e :: es).length + ([] : List Keyword).length + (if ([] : List Keyword).isEmpty then 0 else 1) < 30)) = true := by rfl)
    (hline : (apos.endLine == cpos.line) = true := by rfl) (hs : starEach (e :: es) X.env = (false, eval e X.env) :: starEach es X.env := by rfl) (hplain : (backTo cpos (starEach es X.env)).any (·.1) = false := by rfl) :
    PE X (.Call (.Attribute o name apos) (e :: es) [] cpos) (tM c W (mMethL g f fs)) :=
  pe_imp (pe_bm PySem.F.plainAttrs_list slot hty hm ho ha hbase hfew hline hs hplain) (by rw [F.K]; exact entail_mt hg)
theorem gAppend_ok : MtA c rAppend gAppend := by
  intro w σa st σ H x v xs vs W Q rl rx rxs p
  unfold gAppend at p
  simp only [ifc] at p
  split at p
  · obtain ⟨u, rfl, ru⟩ := pr1 rxs
    split at p
    · rename_i h
      split at p
      · rename_i hl
        obtain ⟨g, us, e, pr⟩ := rl.rs.cell _ _ h
        refine ⟨_, us, u, rx.2, rfl, e, by rw [pr.length]; exact Nat.lt_of_lt_of_le hl (by decide), p _ _ _ (by rw [List.length_set]; exact Ext.refl _ _) (rl.write h g ⟨g, _, upd_same, paired_append pr (.cons ru .nil)⟩) rfl⟩
      · exact p.elim
    · exact p.elim
  · exact p.elim
theorem gExtend_ok : MtA c rExtend gExtend := by
  intro w σa st σ H x v xs vs W Q rl rx rxs p
  unfold gExtend at p
  simp only [ifc] at p
  split at p
  · obtain ⟨u, rfl, ru⟩ := pr1 rxs
    split at p
    · rename_i h
      split at p
      · rename_i hv
        split at p
        · rename_i hl
          obtain ⟨g, us, e, pr⟩ := rl.rs.cell _ _ h
          obtain ⟨b, zs, rfl, eb, prz⟩ := viewL_ok rl.rs ru hv
          refine ⟨_, b, us, zs, rx.2, rfl, e, eb, by rw [pr.length, prz.length]; exact SZ_le hl, p _ _ _ (by rw [List.length_set]; exact Ext.refl _ _) (rl.write h g ⟨g, _, upd_same, paired_append pr prz⟩) rfl⟩
        · exact p.elim
      · exact p.elim
    · exact p.elim
  · exact p.elim
theorem gPopAt_ok : MtA c rPopAt gPopAt := by
  intro w σa st σ H x v xs vs W Q rl rx rxs p
  unfold gPopAt at p
  simp only [ifc] at p
  split at p
  · obtain ⟨u, rfl, ru⟩ := pr1 rxs
    cases ru
    split at p
    · rename_i h
      obtain ⟨g, us, e, pr⟩ := rl.rs.cell _ _ h
      split at p
      · rename_i hk
        split at p
        · rename_i hy
          split at p
          · rename_i hj
            obtain ⟨z, hz, rz⟩ := paired_get pr hy
            refine ⟨_, us, _, _, z, rx.2, rfl, e, hj.1, hj.2, by rw [pr.length]; exact (ixN_seq hk).1, hz, p _ _ _ (by rw [List.length_set]; exact Ext.refl _ _) (rl.write h g ⟨g, _, upd_same, paired_erase pr _⟩) (by rw [List.length_set]; exact rz)⟩
          · exact p.elim
        · exact p.elim
      · exact p.elim
    · exact p.elim
  · exact p.elim
theorem gIndex_ok : MtA c (rIndex c.K) gIndex := by
  intro w σa st σ H x v xs vs W Q rl rx rxs p
  unfold gIndex at p
  split at p
  · rename_i hv
    obtain ⟨u, rfl, ru⟩ := pr1 rxs
    obtain ⟨a, us, rfl, q, pr⟩ := viewS_ok rl.rs rx hv
    split at p
    · rename_i ds hf
      split at p
      · rename_i hd
        split at p
        · rename_i j hj
          obtain ⟨e1, e2⟩ := allFlat_ok pr hf
          obtain ⟨e3, e4⟩ := flat_ok ru hd
          obtain ⟨hl, h1, h2⟩ := List.findIdx?_eq_some_iff_getElem.mp hj
          refine ⟨a, us, u, j, dV ds[j], rfl, rfl, q, e4, e2, by rw [e1, List.getElem?_map, List.getElem?_eq_getElem hl]; rfl, by rw [e3]; exact h1, fun m z hm hz => ?_, p.here rl rfl⟩
          rw [e1, List.getElem?_map, List.getElem?_eq_getElem (Nat.lt_trans hm hl)] at hz
          cases hz
          rw [e3]
          have := h2 m hm
          simpa using this
        · exact p.elim
      · exact p.elim
    · exact p.elim
  · exact p.elim
end
end Am
/-! ### Am: statements, loops -/
namespace Am
open PySem PySem.Spec PyProof.Rows L2
def PostO (c : Ctx) (w : Wd) (n : Nat) (W : WX) (D : Ends) : Out → Prop
  | .nx σa st => ∀ σ w' H', Ext w n w' st.length → Rel c w' σa st σ H' → D.nx σ H'
  | .bk σa st => ∀ σ w' H', Ext w n w' st.length → Rel c w' σa st σ H' → D.bk σ H'
  | .ct σa st => ∀ σ w' H', Ext w n w' st.length → Rel c w' σa st σ H' → D.ct σ H'
  | .rt a st => ∀ v w' H', Ext w n w' st.length → RelS c w' st H' → RA c w' st.length v a → D.rt v H'
  | .ex x σa st => ∀ σ cls d w' H', Ext w n w' st.length → Rel c w' σa st σ H' → RX c w' x cls d → W cls d σ H'
  | .no => False
def tMS (c : Ctx) (W : WX) (m : MS) : TS := fun D σ H => ∃ w σa st, Rel c w σa st σ H ∧ PostO c w st.length W D (m σa st)
theorem PostO.mono {c : Ctx} {w w1 : Wd} {n n1 : Nat} {W : WX} {D : Ends} (e : Ext w n w1 n1) : ∀ {o : Out}, PostO c w n W D o → PostO c w1 n1 W D o
  | .nx _ _, h => fun σ w' H' e' => h σ w' H' (e.trans e')
  | .bk _ _, h => fun σ w' H' e' => h σ w' H' (e.trans e')
  | .ct _ _, h => fun σ w' H' e' => h σ w' H' (e.trans e')
  | .rt _ _, h => fun v w' H' e' => h v w' H' (e.trans e')
  | .ex _ _ _, h => fun σ v d w' H' e' => h σ v d w' H' (e.trans e')
  | .no, h => h
/-- an expression, then a statement's rest -/
def lift {α : Type} (r : Res α) (σ : Slots) (k : α → Store → Out) : Out := match r with
  | .ok a st => k a st
  | .ex x st => .ex x σ st
  | .no => .no
theorem PostO.lift {α β : Type} {c : Ctx} {w : Wd} {n : Nat} {W : WX} {D : Ends} {σa : Slots} {σ : L2.St} {R : Wd → Nat → β → α → Prop} {Q : β → Hp → Prop} {k : α → Store → Out} :
    ∀ {r : Res α}, PostO c w n W D (lift r σa k) → (∀ v a st1 w1 H1, Ext w n w1 st1.length → Rel c w1 σa st1 σ H1 → R w1 st1.length v a → PostO c w1 st1.length W D (k a st1) → Q v H1) → Post c w n σa σ R W Q r
  | .ok a st, h, f => fun v w1 H1 e1 r1 ra => f v a st w1 H1 e1 r1 ra (PostO.mono e1 h)
  | .ex _ _, h, _ => fun cls d w' H' e r rx => h σ cls d w' H' e r rx
  | .no, h, _ => h
section
variable {c : Ctx} {w : Wd} {W : WX} {D : Ends} {σa : Slots} {st : Store} {σ : L2.St} {H : Hp}
theorem PostO.nxt (h : PostO c w st.length W D (.nx σa st)) (r : Rel c w σa st σ H) : D.nx σ H := h σ w H (Ext.refl _ _) r
theorem PostO.brk (h : PostO c w st.length W D (.bk σa st)) (r : Rel c w σa st σ H) : D.bk σ H := h σ w H (Ext.refl _ _) r
theorem PostO.cnt (h : PostO c w st.length W D (.ct σa st)) (r : Rel c w σa st σ H) : D.ct σ H := h σ w H (Ext.refl _ _) r
theorem PostO.ret {a : A} {v : V} (h : PostO c w st.length W D (.rt a st)) (r : RelS c w st H) (ra : RA c w st.length v a) : D.rt v H := h v w H (Ext.refl _ _) r ra
end
/-! targets -/
abbrev MG := A → Slots → Store → Option (Slots × Store)
def PostG (c : Ctx) (w : Wd) (n : Nat) (Q : L2.St → Hp → Prop) : Option (Slots × Store) → Prop
  | some (σa, st) => ∀ σ w' H', Ext w n w' st.length → Rel c w' σa st σ H' → Q σ H'
  | none => False
def tMG (c : Ctx) (g : MG) : TG := fun v σ H Q => ∃ w σa st a, Rel c w σa st σ H ∧ RA c w st.length v a ∧ PostG c w st.length Q (g a σa st)
abbrev MGs := List A → Slots → Store → Option (Slots × Store)
def tMGs (c : Ctx) (g : MGs) : TGs := fun vs σ H Q => ∃ w σa st as, Rel c w σa st σ H ∧ Paired (RA c w st.length) vs as ∧ PostG c w st.length Q (g as σa st)
def kName (i : Nat) : MG := fun a σ st => some (σ.set i (some a), st)
def kNil : MGs := fun as σ st => match as with
  | [] => some (σ, st)
  | _ => none
def kCons (g : MG) (gs : MGs) : MGs := fun as σ st => match as with
  | a :: r => match g a σ st with
    | some (σ1, st1) => gs r σ1 st1
    | none => none
  | [] => none
def kTup (gs : MGs) (n : Nat) : MG := fun a σ st => match viewT a with
  | some ds => if ds.length = n then gs (ds.map .d) σ st else none
  | none => none
/-- o[i] = v by values -/
noncomputable def gSet : A → A → A → Store → Option Store := fun o i v st => match o, i with
  | .c k, i => match st[k]? with
    | some (.lst xs) => match i with
      | .d (.int j) => match ixN xs.length j with
        | some n => some (st.set k (.lst (xs.set n v)))
        | none => none
      | _ => none
    | some (.dK xs) => match keyA i with
      | some y => ifc (xs.length < SZ) (some (st.set k (.dK (putA xs y v)))) none
      | none => none
    | some (.dT xs) => match keysT i with
      | some y => ifc (xs.length < SZ) (some (st.set k (.dT (putA xs y v)))) none
      | none => none
    | _ => none
  | _, _ => none
noncomputable def kSub (fo fi : ME) : MG := fun a σ st => match fo σ st with
  | .ok o st1 => match fi σ st1 with
    | .ok i st2 => match gSet o i a st2 with
      | some st3 => some (σ, st3)
      | none => none
    | _ => none
  | _ => none
def mSkip : MS := fun σ st => .nx σ st
def mBrk : MS := fun σ st => .bk σ st
def mCnt : MS := fun σ st => .ct σ st
def mSeq (m k : MS) : MS := fun σ st => match m σ st with
  | .nx σ1 st1 => k σ1 st1
  | o => o
def mDo (f : ME) : MS := fun σ st => lift (f σ st) σ fun _ st1 => .nx σ st1
def mRet (f : ME) : MS := fun σ st => lift (f σ st) σ fun a st1 => .rt a st1
def mRetN : MS := fun _ st => .rt (.d .non) st
def mIf (t : MT) (m k : MS) : MS := fun σ st => lift (t σ st) σ fun b st1 => if b then m σ st1 else k σ st1
def mAsg (f : ME) (g : MG) : MS := fun σ st => lift (f σ st) σ fun a st1 => match g a σ st1 with
  | some (σ2, st2) => .nx σ2 st2
  | none => .no
def mSet (i : Nat) (f : ME) : MS := fun σ st => lift (f σ st) σ fun a st1 => .nx (σ.set i (some a)) st1
/-- a, b = x, y -/
def mPar (i j : Nat) (fs : MA) : MS := fun σ st => lift (fs σ st) σ fun as st1 => match as with
  | [a, b] => .nx ((σ.set i (some a)).set j (some b)) st1
  | _ => .no
/-- x op= e -/
def mAug (i : Nat) (g : A → A → Store → Res A) (f : ME) : MS := fun σ st => match σ[i]? with
  | some (some x) => lift (f σ st) σ fun y st1 => lift (g x y st1) σ fun z st2 => .nx (σ.set i (some z)) st2
  | _ => .no
def gIxM : A → A → Store → Res A := fun x y st => match viewS st x with
  | some xs => match y with
    | .d (.int i) => match atI xs i with
      | some a => .ok a st
      | none => .no
    | _ => .no
  | none => match viewK st x with
    | some kvs => match keyA y with
      | some k => match lookK kvs k with
        | some a => .ok a st
        | none => .no
      | none => .no
    | none => .no
def rIxM (K : PySem.W.Frag) : R2 := fun x y H Q => rIxL K x y H Q ∨ rIxD x y H Q
theorem gIxM_ok {c : Ctx} : OpA c (rIxM c.K) gIxM := by
  intro w σa st σ H x y v u W Q rl rx ry p
  unfold gIxM at p
  split at p
  · rename_i hv
    obtain ⟨_, us, rfl, q, pr⟩ := viewS_ok rl.rs rx hv
    split at p
    · split at p
      · rename_i ha
        obtain ⟨z, e, r⟩ := paired_at pr ha
        exact .inl ⟨_, us, _, z, rfl, ry, q, e, p.here rl r⟩
      · exact p.elim
    · exact p.elim
  · split at p
    · rename_i hv
      obtain ⟨_, us, rfl, q, pr⟩ := viewK_ok rl.rs rx hv
      split at p
      · rename_i hk
        split at p
        · rename_i ha
          obtain ⟨z, e, r⟩ := (lookK_ok pr).2 _ ha
          have := keyA_ok ry hk
          subst this
          exact .inr ⟨_, z, rfl, by rw [← e]; exact .k q, p.here rl r⟩
        · exact p.elim
      · exact p.elim
    · exact p.elim
noncomputable def mAugS (g : A → A → Store → Res A) (fo fi f : ME) : MS := fun σ st => lift (fo σ st) σ fun o st1 => lift (fi σ st1) σ fun i st2 => lift (gIxM o i st2) σ fun x st3 => lift (f σ st3) σ fun y st4 => lift (g x y st4) σ fun z st5 => match gSet o i z st5 with
  | some st6 => .nx σ st6
  | none => .no
section
variable {X : Cx} {c : Ctx} {W : WX} {e a b o i tg : Expr} {es : List Expr} {s : Stmt} {ss : List Stmt} {f fo fi : ME} {t : MT} {m k : MS} {g : MG} {gs : MGs} {fs : MA} {pos pos' : Pos} {n : Nat}
theorem s_nil : PSs X [] (tMS c W mSkip) := pss_imp pss_nil fun _ _ _ ⟨_, _, _, rl, p⟩ => p.nxt rl
theorem s_pass : PS X (.Pass pos) (tMS c W mSkip) := ps_imp ps_pass fun _ _ _ ⟨_, _, _, rl, p⟩ => p.nxt rl
theorem s_brk : PS X (.Break pos) (tMS c W mBrk) := ps_imp ps_break fun _ _ _ ⟨_, _, _, rl, p⟩ => p.brk rl
theorem s_cnt : PS X (.Continue pos) (tMS c W mCnt) := ps_imp ps_continue fun _ _ _ ⟨_, _, _, rl, p⟩ => p.cnt rl
theorem s_doc {x j} : PS X (.Expr (.Constant (.str x) j pos) pos') (tMS c W mSkip) := ps_imp ps_doc fun _ _ _ ⟨_, _, _, rl, p⟩ => p.nxt rl
theorem s_one (h : PS X s (tMS c W m)) : PSs X [s] (tMS c W m) := pss_one h
theorem s_cons (h : PS X s (tMS c W m)) (h2 : PSs X ss (tMS c W k)) : PSs X (s :: ss) (tMS c W (mSeq m k)) := pss_imp (pss_cons h h2) fun D σ H ⟨w, σa, st, rl, p⟩ => by
  refine ⟨w, σa, st, rl, ?_⟩
  unfold mSeq at p
  split at p
  · rename_i h
    rw [h]
    exact fun σ' w' H' e r => ⟨w', _, _, r, PostO.mono e p⟩
  · rename_i h
    cases ho : m σa st with
    | nx σ1 st1 => exact absurd ho (h σ1 st1)
    | _ => rw [ho] at p; exact p
theorem s_do (h : PE X e (tM c W f)) (hs : swapsWith e none pos.line X.env = pure false := by rfl) : PS X (.Expr e pos) (tMS c W (mDo f)) := ps_imp (ps_expr h hs) fun D σ H ⟨w, σa, st, rl, p⟩ =>
  ⟨w, σa, st, rl, PostO.lift p fun _ _ _ _ _ _ rl1 _ p1 => p1.nxt rl1⟩
theorem s_ret (h : PE X e (tM c W f)) : PS X (.Return (some e) pos) (tMS c W (mRet f)) := ps_imp (ps_ret h) fun D σ H ⟨w, σa, st, rl, p⟩ =>
  ⟨w, σa, st, rl, PostO.lift p fun _ _ _ _ _ _ rl1 r p1 => p1.ret rl1.rs r⟩
theorem s_retN : PS X (.Return none pos) (tMS c W mRetN) := ps_imp ps_retN fun D σ H ⟨w, σa, st, rl, p⟩ => PostO.ret (a := .d .non) p rl.rs rfl
theorem s_if {q r : List Stmt} (h : PT X e (tT c W t)) (h1 : PSs X q (tMS c W m)) (h2 : PSs X r (tMS c W k)) : PS X (.If e q r pos) (tMS c W (mIf t m k)) := ps_imp (ps_if h h1 h2) fun D σ H ⟨w, σa, st, rl, p⟩ =>
  ⟨w, σa, st, rl, PostO.lift p fun b b' _ _ _ _ rl1 r p1 => by
    subst r
    cases b with
    | true => exact iteT ⟨_, _, _, rl1, p1⟩
    | false => exact iteF ⟨_, _, _, rl1, p1⟩⟩
theorem s_set {j : Nat} {x : Str} (hN : X.N.Nodup) (hi : X.N[j]? = some x) (hx : Loc X.env.scope x) (h : PE X e (tM c W f)) (hs : swapsWith e (some (.Name x pos')) pos.line X.env = pure false := by rfl) (hf : X.fn x = true ∨ X.env.scope.names.lookup x = some .local := by first | exact .inl rfl | exact .inr rfl | assumption) :
    PS X (.Assign [.Name x pos'] e pos) (tMS c W (mSet j f)) := ps_imp (ps_set hN hi hx h hs hf) fun D σ H ⟨w, σa, st, rl, p⟩ => ⟨w, σa, st, rl, PostO.lift p fun _ _ _ _ _ _ rl1 r p1 => p1.nxt (rl1.set r)⟩
theorem g_name {j : Nat} {x : Str} (hN : X.N.Nodup) (hi : X.N[j]? = some x) (hx : Loc X.env.scope x) (hf : X.fn x = true ∨ X.env.scope.names.lookup x = some .local := by first | exact .inl rfl | exact .inr rfl | assumption) : PG X (.Name x pos) (tMG c (kName j)) :=
  ⟨fun pins s σ H v u Q I r ⟨w, σa, st, a, rl, ra, p⟩ => (pg_name hN hi hx hf).run pins s σ H v u Q I r (p _ w H (Ext.refl _ _) (rl.set ra))⟩
theorem gs_nil : PGs X [] (tMGs c kNil) := ⟨fun pins s σ H vs us Q I r ⟨w, σa, st, as, rl, ra, p⟩ => pgs_nil.run pins s σ H vs us Q I r (by
  unfold kNil at p
  split at p
  · cases ra; exact ⟨rfl, p _ w H (Ext.refl _ _) rl⟩
  · exact p.elim)⟩
theorem gs_cons (h1 : PG X e (tMG c g)) (h2 : PGs X es (tMGs c gs)) (hs : (assignEach (e :: es) X.env).map (·.2) = assign e X.env :: (assignEach es X.env).map (·.2) := by rfl) : PGs X (e :: es) (tMGs c (kCons g gs)) :=
  ⟨fun pins s σ H vs us Q I r ⟨w, σa, st, as, rl, ra, p⟩ => (pgs_cons h1 h2 hs).run pins s σ H vs us Q I r (by
    unfold kCons at p
    split at p
    · cases ra with
      | cons r1 rr =>
        refine ⟨_, _, rfl, w, σa, st, _, rl, r1, ?_⟩
        split at p
        · rename_i hg
          rw [hg]
          exact fun σ' w' H' e r' => ⟨w', _, _, _, r', ras_ext e rr, by
            revert p
            generalize gs _ _ _ = y
            intro p
            cases y with
            | none => exact p
            | some y => exact fun σ2 w2 H2 e2 => p σ2 w2 H2 (e.trans e2)⟩
        · exact p.elim
    · exact p.elim)⟩
theorem g_tup {kk nn : Nat} (hc : X.calm = true) (h : PGs X es (tMGs c gs)) (F : Fits X c := by exact ⟨rfl, rfl⟩) (hn : (assignEach es X.env).length = nn := by rfl) (hst : (assignEach es X.env).findIdx? (·.1) = none := by rfl) : PG X (.Tuple es kk pos) (tMG c (kTup gs nn)) :=
  ⟨fun pins s σ H v u Q I r ⟨w, σa, st, a, rl, ra, p⟩ => (pg_tup hc h hn hst).run pins s σ H v u Q I r (by
    unfold kTup at p
    split at p
    · rename_i hv
      obtain ⟨b, vs, rfl, q, pr⟩ := viewT_ok rl.rs ra hv
      split at p
      · rename_i hl
        exact ⟨b, vs, rfl, by rw [F.K]; exact q, by rw [pr.pair.length]; exact hl, w, σa, st, _, rl, ras_d pr, p⟩
      · exact p.elim
    · exact p.elim)⟩
def rSetD : V → V → V → Hp → (Hp → Prop) → Prop := fun o i v H Q => ∃ a H', o = .ref a ∧ DPut H a i v H' ∧ Q H'
def rSetAll : V → V → V → Hp → (Hp → Prop) → Prop := fun o i v H Q => rSetL o i v H Q ∨ rSetD o i v H Q
theorem set_all (hr : Room n X.A) : PSet X rSetAll := by
  intro pins s σ H o i v ov iv u Q I ro ri rv h
  rcases h with h | ⟨a, H', rfl, g, q⟩
  · exact set_list pins s σ H o i v ov iv u Q I ro ri rv h
  · obtain rfl : ov = Value.ref a := ro
    exact d_setItem (hu_of hr) I g ri rv fun s4 I4 => ⟨H', I4, q⟩
theorem gSet_ok {w : Wd} {σa : Slots} {st st' : Store} {σ : L2.St} {H : Hp} {o i a : A} {vo vi v : V} {Q : Hp → Prop} (rl : Rel c w σa st σ H) (ro : RA c w st.length vo o) (ri : RA c w st.length vi i) (ra : RA c w st.length v a) (h : gSet o i a st = some st')
    (q : ∀ H', Ext w st.length w st'.length → Rel c w σa st' σ H' → Q H') : rSetAll vo vi v H Q := by
  unfold gSet at h
  simp only [ifc] at h
  split at h
  · split at h
    · rename_i hk
      obtain ⟨g, us, e, pr⟩ := rl.rs.cell _ _ hk
      split at h
      · split at h
        · rename_i hx
          cases h
          exact .inl ⟨_, us, _, _, ro.2, ri, e, by rw [pr.length]; exact hx, q _ (by rw [List.length_set]; exact Ext.refl _ _) (rl.write hk g ⟨g, _, upd_same, paired_set ra _ pr⟩)⟩
        · cases h
      · cases h
    · rename_i hk
      obtain ⟨g, us, e, pr⟩ := rl.rs.cell _ _ hk
      split at h
      · rename_i hy
        split at h
        · rename_i hl
          cases h
          have := keyA_ok ri hy
          subst this
          exact .inr ⟨_, _, ro.2, .k e (by rw [pr.length]; exact Nat.lt_of_lt_of_le hl (by decide)), q _ (by rw [List.length_set]; exact Ext.refl _ _) (rl.write hk g ⟨g, _, upd_same, putA_ok ra pr⟩)⟩
        · cases h
      · cases h
    · rename_i hk
      obtain ⟨g, us, e, pr⟩ := rl.rs.cell _ _ hk
      split at h
      · rename_i hy
        split at h
        · rename_i hl
          cases h
          obtain ⟨b, rfl, eb⟩ := keysT_ok rl.rs.same ri hy
          exact .inr ⟨_, _, ro.2, .t e eb (by rw [pr.length]; exact Nat.lt_of_lt_of_le hl (by decide)), q _ (by rw [List.length_set]; exact Ext.refl _ _) (rl.write hk g ⟨g, _, upd_same, putA_ok ra pr⟩)⟩
        · cases h
      · cases h
    · cases h
  · cases h
theorem g_sub (hr : Room n X.A) (ho : PE X o (tM c W fo)) (hi : PE X i (tM c W fi))
    (ha : ∀ v, assign (.Subscript o i pos) X.env v = (do
      let ov ← holding [v] (eval o X.env)
      let iv ← holding [v, ov] (eval i X.env)
      standAt pos
      holding [v, ov, iv] (setItem ov iv v)
      release [v, ov, iv] []) := by intro _; rfl) : PG X (.Subscript o i pos) (tMG c (kSub fo fi)) :=
  ⟨fun pins s σ H v u Q I r ⟨w, σa, st, a, rl, ra, p⟩ => (pg_sub ho hi (set_all hr) ha).run pins s σ H v u Q I r (by
    unfold kSub at p
    cases h1 : fo σa st with
    | no => rw [h1] at p; exact p.elim
    | ex _ _ => rw [h1] at p; exact p.elim
    | ok y st1 =>
      rw [h1] at p
      refine ⟨w, σa, st, rl, ?_⟩
      rw [h1]
      intro vo w1 H1 e1 rl1 r1
      have p : PostG c w st.length Q (match fi σa st1 with | .ok i st2 => (match gSet y i a st2 with | some st3 => some (σa, st3) | none => none) | _ => none) := p
      cases h2 : fi σa st1 with
      | no => rw [h2] at p; exact p.elim
      | ex _ _ => rw [h2] at p; exact p.elim
      | ok j st2 =>
        rw [h2] at p
        refine ⟨w1, σa, st1, rl1, ?_⟩
        rw [h2]
        intro vi w2 H2 e2 rl2 r2
        have p : PostG c w st.length Q (match gSet y j a st2 with | some st3 => some (σa, st3) | none => none) := p
        cases h3 : gSet y j a st2 with
        | none => rw [h3] at p; exact p.elim
        | some st3 =>
          rw [h3] at p
          exact gSet_ok rl2 (r1.ext e2) r2 ((ra.ext e1).ext e2) h3 fun H3 e3 rl3 => p _ w2 H3 ((e1.trans e2).trans e3) rl3)⟩
theorem s_asg (h : PE X e (tM c W f)) (hg : PG X tg (tMG c g)) (hs : swapsWithSole [tg] e pos.line X.env = pure false := by rfl) (hw : swappedStores [tg] e X.env = pure none := by rfl)
    (h1 : (assignEach [tg] X.env).map (·.2) = [assign tg X.env] := by rfl) : PS X (.Assign [tg] e pos) (tMS c W (mAsg f g)) := ps_imp (ps_asg h hg hs hw h1) fun D σ H ⟨w, σa, st, rl, p⟩ =>
  ⟨w, σa, st, rl, PostO.lift p fun v a st1 w1 H1 _ rl1 r p1 => ⟨w1, σa, st1, a, rl1, r, by
    split at p1
    · rename_i hg
      rw [hg]
      exact p1
    · exact p1.elim⟩⟩
theorem s_par {i j : Nat} {x y : Str} {px py pt : Pos} {kt k2 pt2} (hc : X.calm = true) (hN : X.N.Nodup) (hi : X.N[i]? = some x) (hj : X.N[j]? = some y) (hij : i ≠ j)
    (hx : X.env.scope.names.lookup x = some .local) (hy : X.env.scope.names.lookup y = some .local) (ha : PA X [a, b] (tMA c W fs))
    (hw : swappedStores [.Tuple [.Name x px, .Name y py] kt pt] (.Tuple [a, b] k2 pt2) X.env = pure (some [x, y]) := by rfl)
    (hs : swapsWithSole [.Tuple [.Name x px, .Name y py] kt pt] (.Tuple [a, b] k2 pt2) pos.line X.env = pure false := by rfl) :
    PS X (.Assign [.Tuple [.Name x px, .Name y py] kt pt] (.Tuple [a, b] k2 pt2) pos) (tMS c W (mPar i j fs)) := ps_imp (ps_par hc hN hi hj hij hx hy ha hw hs) fun D σ H ⟨w, σa, st, rl, p⟩ =>
  ⟨w, σa, st, rl, PostO.lift p fun vs as st1 w1 H1 _ rl1 r p1 => by
    split at p1
    · obtain ⟨u, v, rfl, ru, rv⟩ := pr2 r
      exact ⟨u, v, rfl, p1.nxt ((rl1.set ru).set rv)⟩
    · exact p1.elim⟩
theorem s_aug {j : Nat} {x : Str} {op : Operator} {r : R2} {gg : A → A → Store → Res A} (hN : X.N.Nodup) (hi : X.N[j]? = some x) (hx : Loc X.env.scope x) (h : PE X e (tM c W f)) (ho : PIp X op r) (hg : OpA c r gg) (hf : X.fn x = true ∨ X.env.scope.names.lookup x = some .local := by first | exact .inl rfl | exact .inr rfl | assumption) :
    PS X (.AugAssign (.Name x pos') op e pos) (tMS c W (mAug j gg f)) := ps_imp (ps_aug hN hi hx h ho hf) fun D σ H ⟨w, σa, st, rl, p⟩ => by
  unfold mAug at p
  split at p
  · rename_i a hj
    obtain ⟨v, e1, ra⟩ := rl.sl j a hj
    refine ⟨v, e1, w, σa, st, rl, PostO.lift p fun u y st1 w1 H1 e1 rl1 ry p1 => ?_⟩
    exact hg w1 σa st1 σ H1 a y v u W _ rl1 (ra.ext e1) ry (PostO.lift p1 fun z z' st2 w2 H2 _ rl2 rz p2 => p2.nxt (rl2.set rz))
  · exact p.elim
theorem get_ixM (hr : Room n X.A) (F : Fits X c) : PGet X (rIxM c.K) := by
  rw [← F.K]
  intro pins s σ H o i ov iv Q I ro ri h
  rcases h with h | ⟨a, v, rfl, g, q⟩
  · exact Rw.get_list pins s σ H o i ov iv Q I ro ri h
  · obtain rfl : ov = Value.ref a := ro
    exact d_getItem (hu_of hr) I g ri fun w' s4 I4 r4 => ⟨v, H, I4, r4, q⟩
theorem s_augS {op : Operator} {r : R2} {gg : A → A → Store → Res A} {tpos : Pos} (hr : Room n X.A) (ho : PE X o (tM c W fo)) (hi : PE X i (tM c W fi)) (h : PE X e (tM c W f)) (hp : PIp X op r) (hg : OpA c r gg) (F : Fits X c)
    (ha : ∀ ov iv new, augStore i ov iv new = (do holding [new, ov, iv] (setItem ov iv new); release [new, ov, iv] []; pure .next) := by intros; rfl) (get : PGet X (rIxM c.K) := by exact get_ixM (by assumption) ⟨rfl, rfl⟩) : PS X (.AugAssign (.Subscript o i tpos) op e pos) (tMS c W (mAugS gg fo fi f)) :=
  ps_imp (ps_augS ho hi get h hp (set_all hr) ha) fun D σ H ⟨w, σa, st, rl, p⟩ => ⟨w, σa, st, rl, PostO.lift p fun vo yo st1 w1 H1 e1 rl1 ro p1 => ⟨w1, σa, st1, rl1, PostO.lift p1 fun vi yi st2 w2 H2 e2 rl2 ri p2 =>
    gIxM_ok w2 σa st2 σ H2 yo yi vo vi W _ rl2 (ro.ext e2) ri (PostO.lift p2 fun vx x st3 w3 H3 e3 rl3 rx p3 => ⟨w3, σa, st3, rl3, PostO.lift p3 fun vy y st4 w4 H4 e4 rl4 ry p4 =>
      hg w4 σa st4 σ H4 x y vx vy W _ rl4 (rx.ext e4) ry (PostO.lift p4 fun vz z st5 w5 H5 e5 rl5 rz p5 => by
        split at p5
        · rename_i st6 hs
          have ex := (e3.trans e4).trans e5
          exact gSet_ok rl5 ((ro.ext e2).ext ex) (ri.ext ex) rz hs fun H6 e6 rl6 => p5 _ w5 H6 e6 rl6
        · exact p5.elim)⟩)⟩⟩
end
end Am
/-! ### Am: loops, comprehensions -/
namespace Am
open PySem PySem.Spec PyProof.Rows L2
open Classical in
noncomputable def needO (p : Prop) (o : Out) : Out := if p then o else .no
theorem needO_pos {p : Prop} {o : Out} (h : p) : needO p o = o := if_pos h
theorem PostO.need {c : Ctx} {w : Wd} {n : Nat} {W : WX} {D : Ends} {p : Prop} {o : Out} (h : PostO c w n W D (needO p o)) : p ∧ PostO c w n W D o := by
  unfold needO at h
  by_cases q : p
  · rw [if_pos q] at h; exact ⟨q, h⟩
  · rw [if_neg q] at h; exact h.elim
/-! ### cells that are forgotten -/
def ABelow (n : Nat) : A → Prop
  | .d _ => True
  | .c i => i < n
def CBelow (n : Nat) : Cell → Prop
  | .lst xs => ∀ a ∈ xs, ABelow n a
  | .dK xs => ∀ p ∈ xs, ABelow n p.2
  | .dT xs => ∀ p ∈ xs, ABelow n p.2
  | .ins _ xs => ∀ p ∈ xs, ABelow n p.2
  | .fz _ => True
/-- the cells from st.length on may be forgotten -/
def Trunc (st st2 : Store) : Prop := st.length ≤ st2.length ∧ ∀ i, i < st.length → st2[i]? = st[i]? ∨ ∃ x, st2[i]? = some x ∧ CBelow st.length x
def keepA (n : Nat) : Option A → Option A
  | some (.c i) => if i < n then some (.c i) else none
  | x => x
section
variable {c : Ctx} {w w2 : Wd} {n n2 : Nat} {σa : Slots} {st st2 : Store} {σ : L2.St} {H H2 : Hp} {W : WX}
theorem RA.cut {v : V} : ∀ {a : A}, RA c w n2 v a → ABelow n a → RA c w n v a
  | .d _, h, _ => h
  | .c _, ⟨_, e⟩, h => ⟨h, e⟩
theorem ras_cut {vs : List V} {as : List A} (h : Paired (RA c w n2) vs as) : (∀ a ∈ as, ABelow n a) → Paired (RA c w n) vs as := by
  induction h with
  | nil => exact fun _ => .nil
  | @cons v a vs as r _ ih => exact fun b => .cons (r.cut (b a List.mem_cons_self)) (ih fun x hx => b x (List.mem_cons_of_mem _ hx))
theorem kas_cut {κ : Type} {vs : List (κ × V)} {as : List (κ × A)} (h : Paired (KD (RA c w n2)) vs as) : (∀ p ∈ as, ABelow n p.2) → Paired (KD (RA c w n)) vs as := by
  induction h with
  | nil => exact fun _ => .nil
  | @cons v a vs as r _ ih => exact fun b => .cons ⟨r.1, r.2.cut (b a List.mem_cons_self)⟩ (ih fun x hx => b x (List.mem_cons_of_mem _ hx))
theorem CR.cut {a : Addr} : ∀ {x : Cell}, CR c w n2 H a x → CBelow n x → CR c w n H a x
  | .lst _, ⟨g, vs, h, p⟩, b => ⟨g, vs, h, ras_cut p b⟩
  | .dK _, ⟨g, vs, h, p⟩, b => ⟨g, vs, h, kas_cut p b⟩
  | .dT _, ⟨g, vs, h, p⟩, b => ⟨g, vs, h, kas_cut p b⟩
  | .ins _ _, ⟨g, C, dx, us, h, m, p⟩, b => ⟨g, C, dx, us, h, m, kas_cut p b⟩
  | .fz _, h, _ => h
theorem ABelow.of {v : V} : ∀ {a : A}, RA c w n v a → ABelow n a
  | .d _, _ => trivial
  | .c _, h => h.1
theorem paired_all {α β : Type} {F : α → β → Prop} {l₁ : List α} {l₂ : List β} (h : Paired F l₁ l₂) : ∀ b ∈ l₂, ∃ a, F a b := by
  induction h with
  | nil => exact fun b hb => nomatch hb
  | cons r _ ih => exact fun b hb => (List.mem_cons.mp hb).elim (fun e => by subst e; exact ⟨_, r⟩) (ih b)
theorem CBelow.of {a : Addr} : ∀ {x : Cell}, CR c w n H a x → CBelow n x
  | .lst _, ⟨_, _, _, p⟩ => fun b hb => let ⟨_, r⟩ := paired_all p b hb; ABelow.of r
  | .dK _, ⟨_, _, _, p⟩ => fun b hb => let ⟨_, r⟩ := paired_all p b hb; ABelow.of r.2
  | .dT _, ⟨_, _, _, p⟩ => fun b hb => let ⟨_, r⟩ := paired_all p b hb; ABelow.of r.2
  | .ins _ _, ⟨_, _, _, _, _, _, p⟩ => fun b hb => let ⟨_, r⟩ := paired_all p b hb; ABelow.of r.2
  | .fz _, _ => trivial
theorem RelS.trunc (r0 : RelS c w st H) (r : RelS c w2 st2 H2) (t : Trunc st st2) : RelS c w2 (st2.take st.length) H2 where
  same := r.same
  inj := fun i j hi hj => by
    rw [List.length_take] at hi hj
    exact r.inj i j (by omega) (by omega)
  cell := fun i x h => by
    have hl := RelS.lt h
    rw [List.length_take] at hl ⊢
    have e : min st.length st2.length = st.length := Nat.min_eq_left t.1
    rw [e] at hl ⊢
    rw [List.getElem?_take_of_lt hl] at h
    refine (r.cell i x h).cut ?_
    rcases t.2 i hl with q | ⟨y, q, b⟩
    · rw [q] at h
      exact CBelow.of (r0.cell i x h)
    · rw [q] at h
      cases h
      exact b
theorem Ext.cut (e : Ext w st.length w2 st2.length) (t : Trunc st st2) : Ext w st.length w2 (st2.take st.length).length := ⟨e.same, e.cells, by rw [List.length_take]; have := t.1; omega⟩
theorem take_len (t : Trunc st st2) : (st2.take st.length).length = st.length := by rw [List.length_take]; have := t.1; omega
theorem Rel.trunc (r0 : RelS c w st H) (r : Rel c w2 σa st2 σ H2) (t : Trunc st st2) : Rel c w2 (σa.map (keepA st.length)) (st2.take st.length) σ H2 :=
  ⟨r0.trunc r.rs t, by rw [List.length_map]; exact r.len, fun i a h => by
    rw [List.getElem?_map] at h
    obtain ⟨y, h1, h2⟩ := Option.map_eq_some_iff.mp h
    rw [take_len t]
    cases y with
    | none => cases h2
    | some b =>
      obtain ⟨v, e, ra⟩ := r.sl i b h1
      cases b with
      | d x => cases h2; exact ⟨v, e, ra⟩
      | c j =>
        have h2 : (if j < st.length then some (A.c j) else none) = some a := h2
        split at h2
        · rename_i hj
          cases h2
          exact ⟨v, e, hj, ra.2⟩
        · cases h2⟩
end
/-- behind a turn: the cells that it made are forgotten -/
noncomputable def mTrunc (m : MS) : MS := fun σ st => match m σ st with
  | .nx σ1 st1 => needO (Trunc st st1) (.nx (σ1.map (keepA st.length)) (st1.take st.length))
  | .ct σ1 st1 => needO (Trunc st st1) (.ct (σ1.map (keepA st.length)) (st1.take st.length))
  | .bk σ1 st1 => needO (Trunc st st1) (.bk (σ1.map (keepA st.length)) (st1.take st.length))
  | o => o
theorem s_trunc {X : Cx} {c : Ctx} {W : WX} {ss : List Stmt} {m : MS} (h : PSs X ss (tMS c W m)) : PSs X ss (tMS c W (mTrunc m)) := pss_imp h fun D σ H ⟨w, σa, st, rl, p⟩ => by
  refine ⟨w, σa, st, rl, ?_⟩
  unfold mTrunc at p
  cases ho : m σa st with
  | nx σ1 st1 =>
    rw [ho] at p
    obtain ⟨t, p⟩ := PostO.need p
    exact fun σ' w' H' e r => p σ' w' H' (e.cut t) (Rel.trunc rl.rs r t)
  | ct σ1 st1 =>
    rw [ho] at p
    obtain ⟨t, p⟩ := PostO.need p
    exact fun σ' w' H' e r => p σ' w' H' (e.cut t) (Rel.trunc rl.rs r t)
  | bk σ1 st1 =>
    rw [ho] at p
    obtain ⟨t, p⟩ := PostO.need p
    exact fun σ' w' H' e r => p σ' w' H' (e.cut t) (Rel.trunc rl.rs r t)
  | rt _ _ => rw [ho] at p; exact p
  | ex _ _ _ => rw [ho] at p; exact p
  | no => rw [ho] at p; exact p
/-! ### while -/
def whileN (t : MT) (b : MS) : Nat → Slots → Store → Out
  | 0, _, _ => .no
  | n + 1, σ, st => lift (t σ st) σ fun k st1 => if k then match b σ st1 with
      | .nx σ2 st2 => whileN t b n σ2 st2
      | .ct σ2 st2 => whileN t b n σ2 st2
      | .bk σ2 st2 => .nx σ2 st2
      | o => o
    else .nx σ st1
theorem whileN_s {t : MT} {b : MS} (n : Nat) (σ : Slots) (st : Store) : whileN t b (n + 1) σ st = lift (t σ st) σ fun k st1 => if k then match b σ st1 with
      | .nx σ2 st2 => whileN t b n σ2 st2
      | .ct σ2 st2 => whileN t b n σ2 st2
      | .bk σ2 st2 => .nx σ2 st2
      | o => o
    else .nx σ st1 := rfl
open Classical in
noncomputable def mWhile (t : MT) (b : MS) : MS := fun σ st => if h : ∃ n, whileN t b n σ st ≠ .no then whileN t b (choose h) σ st else .no
theorem whileN_up {t : MT} {b : MS} : ∀ {n : Nat} {σ : Slots} {st : Store}, whileN t b n σ st ≠ .no → whileN t b (n + 1) σ st = whileN t b n σ st
  | 0, _, _, h => absurd rfl h
  | n + 1, σ, st, h => by
    rw [whileN_s (n + 1), whileN_s n]
    rw [whileN_s] at h
    cases ht : t σ st with
    | no => rfl
    | ex _ _ => rfl
    | ok k st1 =>
      rw [ht] at h
      simp only [lift] at h ⊢
      cases k with
      | false => rfl
      | true =>
        simp only [if_true] at h ⊢
        cases hb : b σ st1 with
        | nx σ2 st2 => rw [hb] at h; exact whileN_up h
        | ct σ2 st2 => rw [hb] at h; exact whileN_up h
        | _ => rfl
theorem whileN_le {t : MT} {b : MS} {n m : Nat} {σ : Slots} {st : Store} (h : whileN t b n σ st ≠ .no) (l : n ≤ m) : whileN t b m σ st = whileN t b n σ st := by
  induction l with
  | refl => rfl
  | step _ ih => rw [whileN_up (by rw [ih]; exact h), ih]
theorem mWhile_of {t : MT} {b : MS} {n : Nat} {σ : Slots} {st : Store} {o : Out} (h : whileN t b n σ st = o) (ho : o ≠ .no) : mWhile t b σ st = o := by
  unfold mWhile
  have hh : ∃ n, whileN t b n σ st ≠ .no := ⟨n, by rw [h]; exact ho⟩
  rw [dif_pos hh]
  have h1 := Classical.choose_spec hh
  rcases Nat.le_total n (Classical.choose hh) with l | l
  · rw [whileN_le (by rw [h]; exact ho) l, h]
  · rw [← whileN_le h1 l, h]
theorem mWhile_ex {t : MT} {b : MS} {σ : Slots} {st : Store} (h : mWhile t b σ st ≠ .no) : ∃ n, whileN t b n σ st = mWhile t b σ st := by
  unfold mWhile at h ⊢
  by_cases hh : ∃ n, whileN t b n σ st ≠ .no
  · rw [dif_pos hh]; exact ⟨_, rfl⟩
  · rw [dif_neg hh] at h; exact absurd rfl h
/-- one turn -/
theorem mWhile_eq (t : MT) (b : MS) (σ : Slots) (st : Store) : mWhile t b σ st = lift (t σ st) σ fun k st1 => if k then match b σ st1 with
      | .nx σ2 st2 => mWhile t b σ2 st2
      | .ct σ2 st2 => mWhile t b σ2 st2
      | .bk σ2 st2 => .nx σ2 st2
      | o => o
    else .nx σ st1 := by
  have key : ∀ o, (lift (t σ st) σ fun k st1 => if k then match b σ st1 with
      | .nx σ2 st2 => mWhile t b σ2 st2
      | .ct σ2 st2 => mWhile t b σ2 st2
      | .bk σ2 st2 => .nx σ2 st2
      | o => o
    else .nx σ st1) = o → o ≠ .no → ∃ n, whileN t b n σ st = o := by
    intro o h ho
    cases ht : t σ st with
    | no => rw [ht] at h; exact absurd h.symm ho
    | ex x s => rw [ht] at h; exact ⟨1, by rw [whileN_s, ht]; exact h⟩
    | ok k st1 =>
      rw [ht] at h
      simp only [lift] at h
      cases k with
      | false => exact ⟨1, by rw [whileN_s, ht]; exact h⟩
      | true =>
        simp only [if_true] at h
        cases hb : b σ st1 with
        | nx σ2 st2 =>
          rw [hb] at h
          obtain ⟨n, hn⟩ := mWhile_ex (t := t) (b := b) (σ := σ2) (st := st2) (fun z => ho (h.symm.trans z))
          exact ⟨n + 1, by rw [whileN_s, ht]; simp only [lift, if_true, hb]; rw [hn]; exact h⟩
        | ct σ2 st2 =>
          rw [hb] at h
          obtain ⟨n, hn⟩ := mWhile_ex (t := t) (b := b) (σ := σ2) (st := st2) (fun z => ho (h.symm.trans z))
          exact ⟨n + 1, by rw [whileN_s, ht]; simp only [lift, if_true, hb]; rw [hn]; exact h⟩
        | bk σ2 st2 => rw [hb] at h; exact ⟨1, by rw [whileN_s, ht]; simp only [lift, if_true, hb]; exact h⟩
        | rt a s => rw [hb] at h; exact ⟨1, by rw [whileN_s, ht]; simp only [lift, if_true, hb]; exact h⟩
        | ex a s s2 => rw [hb] at h; exact ⟨1, by rw [whileN_s, ht]; simp only [lift, if_true, hb]; exact h⟩
        | no => rw [hb] at h; exact absurd h.symm ho
  generalize hg : (lift (t σ st) σ fun k st1 => if k then match b σ st1 with
      | .nx σ2 st2 => mWhile t b σ2 st2
      | .ct σ2 st2 => mWhile t b σ2 st2
      | .bk σ2 st2 => .nx σ2 st2
      | o => o
    else .nx σ st1) = o
  by_cases ho : o = .no
  · subst ho
    apply Classical.byContradiction
    intro hne
    obtain ⟨n, hn⟩ := mWhile_ex hne
    cases n with
    | zero => rw [whileN] at hn; exact hne hn.symm
    | succ n =>
      rw [← hn] at hne
      rw [whileN_s] at hne
      apply hne
      rw [← hg]
      cases ht : t σ st with
      | no => rfl
      | ex x s => rfl
      | ok k st1 =>
        rw [ht] at hne hg
        simp only [lift] at hne hg ⊢
        cases k with
        | false => rfl
        | true =>
          simp only [if_true] at hne hg ⊢
          cases hb : b σ st1 with
          | nx σ2 st2 => rw [hb] at hne; exact (mWhile_of rfl hne).symm
          | ct σ2 st2 => rw [hb] at hne; exact (mWhile_of rfl hne).symm
          | _ => rfl
  · obtain ⟨n, hn⟩ := key o hg ho
    exact mWhile_of hn ho
section
variable {X : Cx} {c : Ctx} {W : WX} {e tg iter elt : Expr} {body : List Stmt} {t : MT} {b : MS} {pos : Pos}
theorem s_while (hp : PassesOwn (model X.prog X.w) X.A X.env X.xe) (ht : PT X e (tT c W t)) (hb : PSs X body (tMS c W b)) : PS X (.While e body [] pos) (tMS c W (mWhile t b)) := ps_imp (ps_while hp ht hb) fun D σ H ⟨w, σa, st, rl, p⟩ => by
  have hne : mWhile t b σa st ≠ .no := fun z => by rw [z] at p; exact p
  obtain ⟨n, hn⟩ := mWhile_ex hne
  rw [← hn] at p
  refine ⟨fun m σ H => ∃ w' σa' st', Rel c w' σa' st' σ H ∧ PostO c w' st'.length W D (whileN t b m σa' st'), ⟨n, w, σa, st, rl, p⟩, ?_⟩
  rintro m σ1 H1 ⟨w1, σa1, st1, rl1, p1⟩
  cases m with
  | zero => exact p1.elim
  | succ m =>
    rw [whileN_s] at p1
    refine ⟨w1, σa1, st1, rl1, PostO.lift p1 fun k k' st2 w2 H2 e2 rl2 r p2 => ?_⟩
    subst r
    cases k with
    | false => exact iteF (PostO.nxt p2 rl2)
    | true =>
      refine iteT ⟨fun σ' H' => ∃ w' σa' st', Rel c w' σa' st' σ' H' ∧ PostO c w' st'.length W D (whileN t b m σa' st'), fun σ' H' q => ⟨m, Nat.lt_succ_self m, q⟩, w2, σa1, st2, rl2, ?_⟩
      simp only [if_true] at p2
      cases hb : b σa1 st2 with
      | nx σ3 st3 => rw [hb] at p2; exact fun σ' w' H' e r => ⟨w', σ3, st3, r, PostO.mono e p2⟩
      | ct σ3 st3 => rw [hb] at p2; exact fun σ' w' H' e r => ⟨w', σ3, st3, r, PostO.mono e p2⟩
      | bk σ3 st3 => rw [hb] at p2; exact p2
      | rt _ _ => rw [hb] at p2; exact p2
      | ex _ _ _ => rw [hb] at p2; exact p2
      | no => rw [hb] at p2; exact p2
end
/-! ### for -/
/-- what is walked: the items, and what must stay true of the store -/
structure Walk where
  items : List A
  ok : Store → Prop
abbrev MI := Slots → Store → Res Walk
def ItA (c : Ctx) (w : Wd) (n : Nat) (J : It) (k : Walk) : Prop := ∀ (w1 : Wd) (st1 : Store) (H1 : Hp), Ext w n w1 st1.length → RelS c w1 st1 H1 → k.ok st1 →
  J.stop k.items.length H1 ∧ ∀ i a, k.items[i]? = some a → J.go i H1 ∧ ∀ v H2, J.yld i H1 v H2 → ∀ σa σ, Rel c w1 σa st1 σ H1 → ∃ w2, Ext w1 st1.length w2 st1.length ∧ Rel c w2 σa st1 σ H2 ∧ RA c w2 st1.length v a
def tMI (c : Ctx) (W : WX) (it : MI) : TI := fun σ H R => ∃ w σa st, Rel c w σa st σ H ∧ Post c w st.length σa σ (fun w n J k => ItA c w n J k) W R (it σa st)
noncomputable def forA (g : MG) (b : MS) (ok : Store → Prop) : List A → Slots → Store → Out
  | [], σ, st => needO (ok st) (.nx σ st)
  | x :: r, σ, st => needO (ok st) (match g x σ st with
    | none => .no
    | some (σ1, st1) => match b σ1 st1 with
      | .nx σ2 st2 => forA g b ok r σ2 st2
      | .ct σ2 st2 => forA g b ok r σ2 st2
      | .bk σ2 st2 => .nx σ2 st2
      | o => o)
noncomputable def mFor (it : MI) (g : MG) (b : MS) : MS := fun σ st => lift (it σ st) σ fun k st1 => forA g b k.ok k.items σ st1
section
variable {X : Cx} {c : Ctx} {W : WX} {e a1 a2 a3 tg iter elt : Expr} {es : List Expr} {body : List Stmt} {t : MT} {b : MS} {it : MI} {g : MG} {f : ME} {fs : MA} {p pos : Pos}
theorem s_for (hp : PassesOwn (model X.prog X.w) X.A X.env X.xe) (hc : X.calm = true) (hi : PI X tg iter (tMI c W it)) (hg : PG X tg (tMG c g)) (hb : PSs X body (tMS c W b)) (hs : ∀ x, foldedSetIterable iter X.env x = pure x := by intro _; rfl) :
    PS X (.For tg iter body [] pos) (tMS c W (mFor it g b)) := ps_imp (ps_for hp hc hi hg hb hs) fun D σ H ⟨w, σa, st, rl, p⟩ =>
  ⟨w, σa, st, rl, PostO.lift p fun J k st1 w1 H1 e1 rl1 hk p1 => by
    refine ⟨fun i m σ H => ∃ w' σa' st', m = k.items.length - i ∧ i ≤ k.items.length ∧ Ext w1 st1.length w' st'.length ∧ Rel c w' σa' st' σ H ∧ PostO c w' st'.length W D (forA g b k.ok (k.items.drop i) σa' st'), ⟨_, w1, σa, st1, rfl, Nat.zero_le _, Ext.refl _ _, rl1, p1⟩, ?_⟩
    rintro i m σ2 H2 ⟨w2, σa2, st2, rfl, hi, e2, rl2, p2⟩
    by_cases hlt : i < k.items.length
    · have hx : k.items[i]? = some k.items[i] := List.getElem?_eq_getElem hlt
      rw [List.drop_eq_getElem_cons hlt, forA] at p2
      obtain ⟨ok, p2⟩ := PostO.need p2
      obtain ⟨go, yl⟩ := (hk w2 st2 H2 e2 rl2.rs ok).2 i _ hx
      refine .inr ⟨go, fun σ' H' => ∃ w' σa' st', Ext w1 st1.length w' st'.length ∧ Rel c w' σa' st' σ' H' ∧ PostO c w' st'.length W D (forA g b k.ok (k.items.drop (i + 1)) σa' st'), fun σ' H' ⟨w', σa', st', q⟩ => ⟨k.items.length - (i + 1), by omega, w', σa', st', rfl, hlt, q⟩, fun v H3 y => ?_⟩
      obtain ⟨w3, e3, rl3, ra⟩ := yl v H3 y σa2 σ2 rl2
      refine ⟨w3, σa2, st2, _, rl3, ra, ?_⟩
      split at p2
      · exact p2.elim
      · rename_i σ4 st4 hg
        rw [hg]
        intro σ' w' H' e4 rl4
        refine ⟨w', σ4, st4, rl4, ?_⟩
        have ex := (e2.trans e3).trans e4
        have p3 := PostO.mono (e3.trans e4) p2
        cases hb : b σ4 st4 with
        | nx σ5 st5 => rw [hb] at p3; exact fun σ' w' H' e r => ⟨w', σ5, st5, ex.trans e, r, PostO.mono e p3⟩
        | ct σ5 st5 => rw [hb] at p3; exact fun σ' w' H' e r => ⟨w', σ5, st5, ex.trans e, r, PostO.mono e p3⟩
        | bk σ5 st5 => rw [hb] at p3; exact p3
        | rt _ _ => rw [hb] at p3; exact p3
        | ex _ _ _ => rw [hb] at p3; exact p3
        | no => rw [hb] at p3; exact p3
    · have e : i = k.items.length := by omega
      subst e
      rw [List.drop_length, forA] at p2
      obtain ⟨ok, p2⟩ := PostO.need p2
      exact .inl ⟨(hk w2 st2 H2 e2 rl2.rs ok).1, PostO.nxt p2 rl2⟩⟩
theorem pi_imp {t t' : TI} (h : PI X tg iter t) (i : ∀ σ H R, t' σ H R → t σ H R) : PI X tg iter t' := ⟨fun pins s σ H R I q => h.run pins s σ H R I (i σ H R q)⟩
/-- over a list -/
def iListM (f : ME) : MI := fun σ st => (f σ st).bind fun x st1 => match viewS st1 x with
  | some xs => .ok ⟨xs, fun s => viewS s x = some xs⟩ st1
  | none => .no
theorem i_list (h : PE X e (tM c W f)) (F : Fits X c := by exact ⟨rfl, rfl⟩) : PI X tg e (tMI c W (iListM f)) := pi_imp (pi_list h) fun σ H R ⟨w, σa, st, rl, p⟩ => ⟨w, σa, st, rl, p.bind fun v x st1 w1 H1 _ rl1 rx p1 => by
  split at p1
  · rename_i xs hv
    obtain ⟨a, us, rfl, q, pr⟩ := viewS_ok rl1.rs rx hv
    rw [F.K]
    refine ⟨a, rfl, ⟨us, q⟩, p1.here rl1 fun w2 st2 H2 e2 rs2 ok => ?_⟩
    obtain ⟨a', us', e', q', pr'⟩ := viewS_ok rs2 (rx.ext e2) ok
    cases e'
    refine ⟨⟨us', q', by rw [pr'.length]; exact Nat.le_refl _⟩, fun i y hy => ?_⟩
    obtain ⟨u, hu, ru⟩ := paired_get pr' hy
    refine ⟨⟨us', u, q', hu⟩, fun v H3 ⟨e3, yv⟩ σa2 σ2 rl2 => ⟨w2, Ext.refl _ _, by rw [e3]; exact rl2, ?_⟩⟩
    have := yv us' q'
    rw [hu] at this
    cases this
    exact ru
  · exact p1.elim⟩
/-- over a tuple -/
def iTupM (f : ME) : MI := fun σ st => (f σ st).bind fun x st1 => match viewT x with
  | some ds => .ok ⟨ds.map .d, fun _ => True⟩ st1
  | none => .no
theorem i_tup (h : PE X e (tM c W f)) (F : Fits X c := by exact ⟨rfl, rfl⟩) (inj : ∀ (pins : List (Addr × Obj)) (s : Shared) (σ : L2.St) (H : Hp) (a : Addr) (xs ys : List V), Inv X pins σ H s → SqT X.K H a xs → SqT X.K H a ys → xs = ys := by exact fun _ _ _ _ _ _ _ I h h' => I.tuple_inj h h') :
    PI X tg e (tMI c W (iTupM f)) := ⟨fun pins s σ H R I ⟨w, σa, st, rl, p⟩ => (pi_tup h).run pins s σ H R I ⟨w, σa, st, rl, p.bind fun v x st1 w1 H1 _ rl1 rx p1 => by
  split at p1
  · rename_i ds hv
    obtain ⟨a, us, rfl, q, pr⟩ := viewT_ok rl1.rs rx hv
    rw [F.K]
    refine ⟨a, rfl, ⟨us, q⟩, p1.here rl1 fun w2 st2 H2 e2 rs2 ok => ?_⟩
    obtain ⟨a', us', e', q', pr'⟩ := viewT_ok rs2 (rx.ext e2) hv
    cases e'
    have prd : Paired (RA c w2 st2.length) us' (ds.map A.d) := ras_d pr'
    refine ⟨⟨us', q', by rw [prd.length]; exact Nat.le_refl _⟩, fun i y hy => ?_⟩
    obtain ⟨u, hu, ru⟩ := paired_get prd hy
    refine ⟨⟨us', u, q', hu⟩, fun v H3 ⟨e3, yv⟩ σa2 σ2 rl2 => ⟨w2, Ext.refl _ _, by rw [e3]; exact rl2, ?_⟩⟩
    have := yv us' q'
    rw [hu] at this
    cases this
    exact ru
  · exact p1.elim⟩⟩
/-- ranges -/
def rangeA (lo : Int) (n : Nat) (s : Int) : List A := (List.range n).map fun i => A.d (.int (lo + (i : Nat) * s))
theorem ItA.range {w : Wd} {m : Nat} {lo : Int} {n : Nat} : ItA c w m (Itr lo n) ⟨rangeA lo n 1, fun _ => True⟩ := fun w1 st1 H1 e rs _ => by
  refine ⟨show n ≤ (rangeA lo n 1).length by unfold rangeA; rw [List.length_map, List.length_range]; exact Nat.le_refl _, fun i a h => ?_⟩
  have h : (rangeA lo n 1)[i]? = some a := h
  unfold rangeA at h
  rw [List.getElem?_map] at h
  obtain ⟨j, h1, rfl⟩ := Option.map_eq_some_iff.mp h
  obtain ⟨hl, h2⟩ := List.getElem?_eq_some_iff.mp h1
  rw [List.length_range] at hl
  rw [List.getElem_range] at h2
  subst h2
  exact ⟨hl, fun v H2 ⟨e3, ev⟩ σa σ rl => ⟨w1, Ext.refl _ _, by rw [e3]; exact rl, by rw [ev, Int.mul_one]; exact rfl⟩⟩
theorem ItA.rangeC {w : Wd} {m : Nat} {lo s : Int} {n : Nat} : ItA c w m (Itc lo s n) ⟨rangeA lo n s, fun _ => True⟩ := fun w1 st1 H1 e rs _ => by
  refine ⟨show n ≤ (rangeA lo n s).length by unfold rangeA; rw [List.length_map, List.length_range]; exact Nat.le_refl _, fun i a h => ?_⟩
  have h : (rangeA lo n s)[i]? = some a := h
  unfold rangeA at h
  rw [List.getElem?_map] at h
  obtain ⟨j, h1, rfl⟩ := Option.map_eq_some_iff.mp h
  obtain ⟨hl, h2⟩ := List.getElem?_eq_some_iff.mp h1
  rw [List.length_range] at hl
  rw [List.getElem_range] at h2
  subst h2
  exact ⟨hl, fun v H2 ⟨e3, ev⟩ σa σ rl => ⟨w1, Ext.refl _ _, by rw [e3]; exact rl, by rw [ev]; exact rfl⟩⟩
noncomputable def iRng1M (fs : MA) : MI := fun σ st => (fs σ st).bind fun xs st1 => match xs with
  | [.d (.int j)] => ifc (-(2 ^ 62) ≤ j ∧ j < 2 ^ 62) (.ok ⟨rangeA 0 j.toNat 1, fun _ => True⟩ st1) .no
  | _ => .no
noncomputable def iRng2M (fs : MA) : MI := fun σ st => (fs σ st).bind fun xs st1 => match xs with
  | [.d (.int i), .d (.int j)] => ifc (-(2 ^ 62) ≤ i ∧ i < 2 ^ 62 ∧ -(2 ^ 62) ≤ j ∧ j < 2 ^ 62) (.ok ⟨rangeA i (j - i).toNat 1, fun _ => True⟩ st1) .no
  | _ => .no
noncomputable def iRng3M (fs : MA) : MI := fun σ st => (fs σ st).bind fun xs st1 => match xs with
  | [.d (.int i), .d (.int j), .d (.int k)] => need (∃ n, RgC i j k n) (.ok ⟨rangeA i (Builtin.Range.rangeSize i j k).toNat k, fun _ => True⟩ st1)
  | _ => .no
theorem i_range1 (hm : c.mg "range" = none) (ha : PA X [a1] (tMA c W fs)) (hgl : Gl X "range" := by rfl) (F : Fits X c := by exact ⟨rfl, rfl⟩) (hs : starEach [a1] X.env = [(false, eval a1 X.env)] := by rfl) : PI X tg (.Call (.Name "range" p) [a1] [] pos) (tMI c W (iRng1M fs)) :=
  pi_imp (pi_range1 hgl (by rw [F.mg]; exact hm) ha hs) fun σ H R ⟨w, σa, st, rl, p⟩ => ⟨w, σa, st, rl, p.bind fun vs xs st1 w1 H1 _ rl1 rx p1 => by
    simp only [ifc] at p1
    split at p1
    · split at p1
      · rename_i h
        obtain ⟨v, rfl, r⟩ := pr1 rx
        cases r
        exact ⟨_, rfl, h.1, h.2, p1.here rl1 ItA.range⟩
      · exact p1.elim
    · exact p1.elim⟩
theorem i_range2 (hm : c.mg "range" = none) (ha : PA X [a1, a2] (tMA c W fs)) (hgl : Gl X "range" := by rfl) (F : Fits X c := by exact ⟨rfl, rfl⟩) (hs : starEach [a1, a2] X.env = [(false, eval a1 X.env), (false, eval a2 X.env)] := by rfl) (hs2 : starEach [a2] X.env = [(false, eval a2 X.env)] := by rfl) : PI X tg (.Call (.Name "range" p) [a1, a2] [] pos) (tMI c W (iRng2M fs)) :=
  pi_imp (pi_range2 hgl (by rw [F.mg]; exact hm) ha hs hs2) fun σ H R ⟨w, σa, st, rl, p⟩ => ⟨w, σa, st, rl, p.bind fun vs xs st1 w1 H1 _ rl1 rx p1 => by
    simp only [ifc] at p1
    split at p1
    · split at p1
      · rename_i h
        obtain ⟨v, u, rfl, r, r'⟩ := pr2 rx
        cases r
        cases r'
        exact ⟨_, _, rfl, h, p1.here rl1 ItA.range⟩
      · exact p1.elim
    · exact p1.elim⟩
theorem i_range3 (hm : c.mg "range" = none) (ha : PA X [a1, a2, a3] (tMA c W fs)) (hgl : Gl X "range" := by rfl) (F : Fits X c := by exact ⟨rfl, rfl⟩) (hs : starEach [a1, a2, a3] X.env = (false, eval a1 X.env) :: starEach [a2, a3] X.env := by rfl) (hpl : (backTo pos (starEach [a2, a3] X.env)).any (·.1) = false := by rfl) : PI X tg (.Call (.Name "range" p) [a1, a2, a3] [] pos) (tMI c W (iRng3M fs)) :=
  pi_imp (pi_range3 hgl (by rw [F.mg]; exact hm) ha hs hpl) fun σ H R ⟨w, σa, st, rl, p⟩ => ⟨w, σa, st, rl, p.bind fun vs xs st1 w1 H1 _ rl1 rx p1 => by
    split at p1
    · obtain ⟨⟨n, h⟩, p1⟩ := p1.need
      obtain ⟨v, u, z, rfl, r, r', r2⟩ := pr3 rx
      cases r
      cases r'
      cases r2
      have e := h.2.2.2
      rw [e, Int.toNat_natCast] at p1
      exact ⟨_, _, _, n, rfl, h, p1.here rl1 ItA.rangeC⟩
    · exact p1.elim⟩
end
end Am
/-! ### Am: defs and their calls -/
namespace Am
open PySem PySem.Spec PyProof.Rows L2
/-- the promise of a def whose machine is f -/
def spM (c : Ctx) (f : MF) : Sp := fun vs H Q E => ∃ w st as, RelS c w st H ∧ Paired (RA c w st.length) vs as ∧ match f as st with
  | .ok a st1 => ∀ v w1 H1, Ext w st.length w1 st1.length → RelS c w1 st1 H1 → RA c w1 st1.length v a → Q v H1
  | .ex x st1 => ∀ cls d w1 H1, Ext w st.length w1 st1.length → RelS c w1 st1 H1 → RX c w1 x cls d → E cls d H1
  | .no => False
def Rel.of {c : Ctx} {w w1 : Wd} {σa : Slots} {st st1 : Store} {σ : L2.St} {H H1 : Hp} (r : Rel c w σa st σ H) (e : Ext w st.length w1 st1.length) (rs : RelS c w1 st1 H1) : Rel c w1 σa st1 σ H1 :=
  ⟨rs, r.len, fun i a h => let ⟨v, q, ra⟩ := r.sl i a h; ⟨v, q, ra.ext e⟩⟩
def mCall (f : MF) (fs : MA) : ME := fun σ st => (fs σ st).bind f
theorem passAtM {X : Cx} {W : WX} (tk : Takes X W) (σ : L2.St) : PassesAt (L2.CX X.prog X.w) X σ (fun cls d H => W cls d σ H) := fun pins H s e s' I c => tk e s' (XE.of_call I (fun _ _ _ h => h) c)
theorem takes0 {X : Cx} : Takes X (fun _ _ _ _ => False) := fun _ _ ⟨_, _, _, _, _, _, _, _, _, _, _, _, _, _, _, _, h⟩ => h.elim
section
variable {X : Cx} {c : Ctx} {W : WX} {e : Expr} {es : List Expr} {fs : MA} {f : MF} {k : Nat} {ps : List Str} {x : Str} {p pos : Pos}
theorem entail_call (σ : L2.St) (H : Hp) (Q : VK) : tM c W (mCall f fs) σ H Q → tCallSD (spM c f) [] (fun σ cls d H => W cls d σ H) (tMA c W fs) σ H Q := fun ⟨w, σa, st, rl, q⟩ =>
  ⟨w, σa, st, rl, q.bind fun vs xs st1 w1 H1 _ rl1 rx p1 => ⟨w1, st1, xs, rl1.rs, by rw [List.append_nil]; exact rx, by
    cases hf : f xs st1 with
    | ok a st2 => rw [hf] at p1; exact fun v w2 H2 e2 rs ra => p1 v w2 H2 e2 (rl1.of e2 rs) ra
    | ex y st2 => rw [hf] at p1; exact fun cls d w2 H2 e2 rs rx => p1 cls d w2 H2 e2 (rl1.of e2 rs) rx
    | no => rw [hf] at p1; exact p1⟩⟩
theorem e_call (h : Rw.Has X.prog X.w X.K X.mg X.base (L2.CX X.prog X.w) k x ps (spM c f)) (hr : Room k X.A) (tk : Takes X W) (ha : PA X (e :: es) (tMA c W fs)) (hgl : Gl X x := by rfl) (hdb : (x == ("__debug__" : Str)) = false := by decide)
    (he : starEach (e :: es) X.env = (false, eval e X.env) :: starEach es X.env := by rfl) (hpl : (backTo pos (starEach es X.env)).any (·.1) = false := by rfl) : PE X (.Call (.Name x p) (e :: es) [] pos) (tM c W (mCall f fs)) := by
  obtain ⟨fa, fd, g, kp, b, _, F⟩ := h
  exact pe_imp (pe_callSD F hr hgl g kp b .nil (fun σ => passAtM tk σ) ha hdb he hpl) entail_call
/-- no arguments -/
def tCallN (sp : Sp) (E : L2.St → XK) : TE := fun σ H Q => sp [] H Q (E σ)
theorem pe_callN {CX : CXT} {g : Addr} {fd : FuncData} {sp : Sp} {E : L2.St → XK} (F : FnOk X.prog X.w X.K X.mg X.base CX k g fd ps sp) (room : Room k X.A) (gl : Gl X x) (at_ : X.mg x = some (.ref g)) (kp : PySem.W.keepIn X.K (.ref g) = true) (bd : Binds X.K fd ps []) (px : ∀ σ, PassesAt CX X σ (E σ))
    (nd : (x == ("__debug__" : Str)) = false := by decide) : PE X (.Call (.Name x p) [] [] pos) (tCallN sp E) where
  run := fun pins s σ H Q I h => wpAny_Call_Name_kw (ld_glob I gl at_ (PySem.W.callWith_K0 I.kIn kp (run_fnSD (vs := []) (us := []) F room bd .nil (px σ) I .nil h)) nd)
theorem e_call0 (h : Rw.Has X.prog X.w X.K X.mg X.base (L2.CX X.prog X.w) k x ps (spM c f)) (hr : Room k X.A) (tk : Takes X W) (hgl : Gl X x := by rfl) (hdb : (x == ("__debug__" : Str)) = false := by decide) :
    PE X (.Call (.Name x p) [] [] pos) (tM c W (mCall f mNil)) := by
  obtain ⟨fa, fd, g, kp, b, _, F⟩ := h
  exact pe_imp (pe_callN (E := fun σ cls d H => W cls d σ H) F hr hgl g kp b (fun σ => passAtM tk σ) hdb) fun σ H Q ⟨w, σa, st, rl, q⟩ => ⟨w, st, [], rl.rs, .nil, by
    have q : Post c w st.length σa σ (RA c) W Q (f [] st) := q
    cases hf : f [] st with
    | ok a st2 => rw [hf] at q; exact fun v w2 H2 e2 rs ra => q v w2 H2 e2 (rl.of e2 rs) ra
    | ex y st2 => rw [hf] at q; exact fun cls d w2 H2 e2 rs rx => q cls d w2 H2 e2 (rl.of e2 rs) rx
    | no => rw [hf] at q; exact q⟩
end
/-! ### a def's exit -/
/-- what a body comes to: its result, its cells forgotten -/
def ABelowD (n : Nat) (a : A) : Prop := ABelow n a
/-- how a def hands back its result. 0: as it is, the store too; 1: as it is, the def's own cells forgotten; 2: as data; 3: its own cell moved to the front -/
noncomputable def exitR (k : Nat) (st : Store) (a : A) (st1 : Store) : Res A := match k with
  | 0 => .ok a st1
  | 1 => need (Trunc st st1 ∧ ABelow st.length a) (.ok a (st1.take st.length))
  | 2 => (frz a st1).bind fun b st2 => need (Trunc st st2 ∧ ABelow st.length b) (.ok b (st2.take st.length))
  | _ => match a with
    | .c i => match st1[i]? with
      | some x => need (st.length ≤ i ∧ Trunc st st1 ∧ CBelow st.length x) (.ok (.c st.length) (st1.take st.length ++ [x]))
      | none => .no
    | _ => .no
noncomputable def runDef (k : Nat) (n : Nat) (m : MS) : MF := fun as st => match m (as.map some ++ List.replicate (n - as.length) none) st with
  | .nx _ st1 => exitR k st (.d .non) st1
  | .rt a st1 => exitR k st a st1
  | .ex x _ st1 => need (k = 0 ∨ Trunc st st1) (.ex x (if k = 0 then st1 else st1.take st.length))
  | _ => .no
/-- an end of a def -/
def EndR (c : Ctx) (w : Wd) (n : Nat) (Q : VK) (E : XK) : Res A → Prop
  | .ok a st1 => ∀ v w1 H1, Ext w n w1 st1.length → RelS c w1 st1 H1 → RA c w1 st1.length v a → Q v H1
  | .ex x st1 => ∀ cls d w1 H1, Ext w n w1 st1.length → RelS c w1 st1 H1 → RX c w1 x cls d → E cls d H1
  | .no => False
section
variable {c : Ctx} {w w1 : Wd} {n : Nat} {Q : VK} {E : XK} {st st1 : Store} {H H1 : Hp}
theorem EndR.need {p : Prop} {r : Res A} (h : EndR c w n Q E (need p r)) : p ∧ EndR c w n Q E r := by
  unfold Am.need at h
  by_cases q : p
  · rw [if_pos q] at h; exact ⟨q, h⟩
  · rw [if_neg q] at h; exact h.elim
theorem frz_rs {a b : A} {v : V} {st2 : Store} (rs : RelS c w1 st1 H1) (r : RA c w1 st1.length v a) (h : frz a st1 = .ok b st2) : ∃ w2, Ext w1 st1.length w2 st2.length ∧ RelS c w2 st2 H1 ∧ RA c w2 st2.length v b := by
  cases a with
  | d x => cases h; exact ⟨w1, Ext.refl _ _, rs, r⟩
  | c i =>
    obtain ⟨hi, rfl⟩ := r
    have h : (match st1[i]? with | some (.fz x) => Res.ok (A.d x) st1 | some x => (match cellD x with | some d => .ok (.d d) (st1.set i (.fz d)) | none => .no) | none => .no) = .ok b st2 := h
    split at h
    · rename_i q
      cases h
      exact ⟨w1, Ext.refl _ _, rs, (rs.cell _ _ q).1⟩
    · rename_i x nf q
      split at h
      · rename_i d hd
        cases h
        obtain ⟨g, o, ho, hr⟩ := cell_live rs q (fun y z => nf y (by rw [z])) hd
        exact ⟨_, by rw [List.length_set]; exact w1.put_ext g, rs.freeze q g ho hr, hr⟩
      · cases h
    · cases h
theorem exit_ok {k : Nat} {a : A} {v : V} (r0 : RelS c w st H) (e : Ext w st.length w1 st1.length) (rs : RelS c w1 st1 H1) (ra : RA c w1 st1.length v a) (p : EndR c w st.length Q E (exitR k st a st1)) : Q v H1 := by
  unfold exitR at p
  split at p
  · exact p v w1 H1 e rs ra
  · obtain ⟨⟨t, b⟩, p⟩ := p.need
    exact p v w1 H1 (e.cut t) (r0.trunc rs t) (by rw [take_len t]; exact ra.cut b)
  · cases hf : frz a st1 with
    | ok b st2 =>
      rw [hf] at p
      obtain ⟨⟨t, b⟩, p⟩ := EndR.need (r := _) p
      obtain ⟨w2, e2, rs2, ra2⟩ := frz_rs rs ra hf
      exact p v w2 H1 ((e.trans e2).cut t) (r0.trunc rs2 t) (by rw [take_len t]; exact ra2.cut b)
    | ex _ _ =>
      have : ∀ (a : A) (st : Store) x s, frz a st ≠ .ex x s := fun a st x s h => by
        unfold frz at h
        split at h
        · cases h
        · split at h
          · cases h
          · split at h <;> cases h
          · cases h
      exact absurd hf (this _ _ _ _)
    | no => rw [hf] at p; exact p.elim
  · split at p
    · rename_i i
      split at p
      · rename_i x hx
        obtain ⟨⟨hi, t, b⟩, p⟩ := p.need
        obtain ⟨_, rfl⟩ := ra
        -- the cell i of w1 is st.length's
        have hil := RelS.lt hx
        let w2 : Wd := ⟨w1.G, fun j => if j = st.length then w1.E i else w1.E j⟩
        have e2 : ∀ j, j < st.length → w2.E j = w1.E j := fun j hj => if_neg (Nat.ne_of_lt hj)
        have e3 : w2.E st.length = w1.E i := if_pos rfl
        have hlen : (st1.take st.length ++ [x]).length = st.length + 1 := by rw [List.length_append, take_len t]; rfl
        have ext : Ext w1 st.length w2 (st.length + 1) := ⟨.refl _, e2, Nat.le_succ _⟩
        have r1 := r0.trunc rs t
        refine p _ w2 H1 ⟨e.same, fun j hj => (e2 j hj).trans (e.cells j hj), by rw [hlen]; exact Nat.le_succ _⟩ ⟨rs.same, fun j l hj hl q => ?_, fun j y hy => ?_⟩ ⟨by rw [hlen]; exact Nat.lt_succ_self _, by rw [e3]⟩
        · rw [hlen] at hj hl
          by_cases h1 : j = st.length
          · by_cases h2 : l = st.length
            · rw [h1, h2]
            · subst h1
              rw [e3, e2 l (by omega)] at q
              have := rs.inj i l hil (Nat.lt_of_lt_of_le (by omega) t.1) q
              omega
          · by_cases h2 : l = st.length
            · subst h2
              rw [e3, e2 j (by omega)] at q
              have := rs.inj j i (Nat.lt_of_lt_of_le (by omega) t.1) hil q
              omega
            · rw [e2 j (by omega), e2 l (by omega)] at q
              exact rs.inj j l (Nat.lt_of_lt_of_le (by omega) t.1) (Nat.lt_of_lt_of_le (by omega) t.1) q
        · rw [hlen]
          by_cases h1 : j < st.length
          · rw [List.getElem?_append_left (by rw [take_len t]; exact h1)] at hy
            have cr := r1.cell j y hy
            rw [take_len t] at cr
            rw [e2 j h1]
            exact cr.stay ext (fun g => g) rfl
          · have hl := RelS.lt hy
            rw [hlen] at hl
            have : j = st.length := by omega
            subst this
            rw [List.getElem?_append_right (by rw [take_len t]; exact Nat.le_refl _), take_len t, Nat.sub_self] at hy
            cases hy
            rw [e3]
            exact ((rs.cell i x hx).cut b).stay ext (fun g => g) rfl
      · exact p.elim
    · exact p.elim
end
/-- a def of np parameters and nn names -/
noncomputable def mF (np nn ex : Nat) (m : MS) : MF := fun as st => if as.length = np then runDef ex nn m as st else .no
section
variable {P : Program} {w : World} {K : PySem.W.Frag} {mg : Str → Option Value} {base : Heap} {k : Nat} {x qual : Str} {st : Stmt} {ps N : List Str}
/-- THE RULE: a def keeps its machine's promise -/
theorem def_has {m : MS} (np nn ex : Nat) (D : Rw.Def K mg x qual st ps) (S : FnScope N ps (defScope st)) (hp : ps.length = np) (hn : N.length = nn)
    (hbody : ∀ (f : Addr) (cdv : Value) (A : Around) (outer : List Env) (s : Shared) (H : Hp) (E : XK), Room k (A.deeper (envOfC qual (defScope st) s.heap.objs.size f cdv)) →
      Takes (cxOf (L2.CX P w) P w K mg base N qual (defScope st) f cdv A outer s H E) (fun cls d _ H => E cls d H) →
      PSs (cxOf (L2.CX P w) P w K mg base N qual (defScope st) f cdv A outer s H E) (defBody st) (tMS ⟨K, mg⟩ (fun cls d _ H => E cls d H) m)) :
    Rw.Has P w K mg base (L2.CX P w) (k + 1) x ps (spM ⟨K, mg⟩ (mF np nn ex m)) := by
  subst hp hn
  refine D.hasX S ?_ (fun f cdv A outer s H vs Q E hr h => ⟨_, hbody f cdv A outer s H E hr (takes_of rfl rfl rfl rfl), ?_⟩)
  · rintro vs H Q E ⟨w, st, as, rs, pr, h⟩
    apply Classical.byContradiction
    intro z
    have h : EndR ⟨K, mg⟩ w st.length Q E (if as.length = ps.length then runDef ex N.length m as st else .no) := h
    rw [if_neg (by rw [← pr.length]; exact z)] at h
    exact h
  · obtain ⟨w, st, as, rs, pr, h⟩ := h
    have h : EndR ⟨K, mg⟩ w st.length Q E (if as.length = ps.length then runDef ex N.length m as st else .no) := h
    by_cases hl : as.length = ps.length
    · rw [if_pos hl] at h
      have rl : Rel ⟨K, mg⟩ w (as.map some ++ List.replicate (N.length - as.length) none) st (L2.start N vs) H := by
        refine ⟨rs, ?_, fun i a hi => ?_⟩
        · unfold L2.start
          rw [List.length_append, List.length_append, List.length_map, List.length_map, List.length_replicate, List.length_replicate, pr.length]
        · have hil : i < as.length := by
            apply Classical.byContradiction
            intro z
            rw [List.getElem?_append_right (by rw [List.length_map]; omega), List.getElem?_replicate] at hi
            split at hi <;> cases hi
          rw [List.getElem?_append_left (by rw [List.length_map]; exact hil), List.getElem?_map] at hi
          obtain ⟨b, h1, h2⟩ := Option.map_eq_some_iff.mp hi
          cases h2
          obtain ⟨v, hv, ra⟩ := paired_get pr h1
          refine ⟨v, ?_, ra⟩
          unfold L2.start
          rw [List.getElem?_append_left (by rw [List.length_map, pr.length]; exact hil), List.getElem?_map, hv]
          rfl
      refine ⟨w, _, st, rl, ?_⟩
      unfold runDef at h
      cases hm : m (as.map some ++ List.replicate (N.length - as.length) none) st with
      | nx σ1 st1 => rw [hm] at h; exact fun σ w1 H1 e r => exit_ok (a := .d .non) rs e r.rs rfl h
      | rt a st1 => rw [hm] at h; exact fun v w1 H1 e r ra => exit_ok rs e r ra h
      | ex y σ1 st1 =>
        rw [hm] at h
        obtain ⟨t, h⟩ := EndR.need h
        intro σ cls d w1 H1 e r rx
        by_cases hk : ex = 0
        · rw [if_pos hk] at h
          exact h cls d w1 H1 e r.rs rx
        · rw [if_neg hk] at h
          have t := t.resolve_left hk
          exact h cls d w1 H1 (e.cut t) (rs.trunc r.rs t) rx
      | bk _ _ => rw [hm] at h; exact h.elim
      | ct _ _ => rw [hm] at h; exact h.elim
      | no => rw [hm] at h; exact h
    · rw [if_neg hl] at h
      exact h.elim
end
end Am
/-! ### Am: comprehensions, raising -/
namespace Am
open PySem PySem.Spec PyProof.Rows L2
/-- a comprehension's target: the slots behind it -/
abbrev Pt := Slots → A → Option Slots
def pt1 (j : Nat) : Pt := fun σ x => some (σ.set j (some x))
def pt2 (i j : Nat) : Pt := fun σ x => match viewT x with
  | some [a, b] => some ((σ.set i (some (.d a))).set j (some (.d b)))
  | _ => none
def wipeA (σ : Slots) : List Nat → Slots
  | [] => σ
  | v :: vs => (wipeA σ vs).set v none
def PtOk (c : Ctx) (vs : List Nat) (pt : Pt) (g : TG) : Prop := ∀ (w : Wd) (σa σb : Slots) (st : Store) (σ : L2.St) (H : Hp) (x : A) (v : V) (Q : L2.St → Hp → Prop), Rel c w (wipeA σa vs) st (wipe σ vs) H → RA c w st.length v x → pt (wipeA σa vs) x = some σb →
  (∀ σ', Rel c w σb st σ' H → wipe σ' vs = wipe σ vs → Q σ' H) → g v (wipe σ vs) H Q
def noEx {α : Type} : Res α → Res α
  | .ok a st => .ok a st
  | _ => .no
noncomputable def lcA (pt : Pt) (t : MT) (f : ME) (n : Nat) (ok : Store → Prop) (σ : Slots) : List A → Store → Res Unit
  | [], st => need (ok st) (.ok () st)
  | x :: r, st => need (ok st) (match pt σ x with
    | none => .no
    | some σ1 => (noEx (t σ1 st)).bind fun b st1 => if b then (noEx (f σ1 st1)).bind fun y st2 => match st2[n]? with
        | some (.lst acc) => ifc (acc.length < SZ) (lcA pt t f n ok σ r (st2.set n (.lst (acc ++ [y])))) .no
        | _ => .no
      else lcA pt t f n ok σ r st1)
noncomputable def lcEnd (k : Bool) (st1 st2 : Store) : Res A := match st2[st1.length]? with
  | some (.lst acc) => if k then .ok (.c st1.length) st2 else match allD acc with
    | some ds => need (Trunc st1 st2) (.ok (.d (.list ds)) (st2.take st1.length))
    | none => .no
  | _ => .no
noncomputable def mLc (k : Bool) (vs : List Nat) (pt : Pt) (it : MI) (t : MT) (f : ME) : ME := fun σ st => (it σ st).bind fun wk st1 => (lcA pt t f st1.length wk.ok (wipeA σ vs) wk.items (st1 ++ [.lst []])).bind fun _ st2 => lcEnd k st1 st2
def mYes : MT := fun _ st => .ok true st
abbrev W0 : WX := fun _ _ _ _ => False
section
variable {c : Ctx} {w w1 : Wd} {n : Nat} {σa : Slots} {st st1 : Store} {σ : L2.St} {H : Hp} {W : WX}
theorem Rel.unset (r : Rel c w σa st σ H) (i : Nat) : Rel c w (σa.set i none) st (σ.set i none) H :=
  ⟨r.rs, by rw [List.length_set, List.length_set]; exact r.len, fun j a h => by
    by_cases e : i = j
    · subst e
      by_cases hl : i < σa.length
      · rw [List.getElem?_set_self hl] at h; cases h
      · rw [List.getElem?_eq_none (by rw [List.length_set]; omega)] at h; cases h
    · rw [List.getElem?_set_ne e] at h
      obtain ⟨v, h1, h2⟩ := r.sl j a h
      exact ⟨v, by rw [List.getElem?_set_ne e]; exact h1, h2⟩⟩
theorem Rel.wipe (r : Rel c w σa st σ H) : ∀ vs : List Nat, Rel c w (wipeA σa vs) st (L2.wipe σ vs) H
  | [] => r
  | v :: vs => (r.wipe vs).unset v
theorem pt1_ok (j : Nat) : PtOk c [j] (pt1 j) (gName j) := by
  intro w σa σb st σ H x v Q rl rx e q
  cases e
  refine q _ (rl.set rx) ?_
  show (((σ.set j none).set j (some v)).set j none) = σ.set j none
  rw [List.set_set, List.set_set]
theorem pt2_ok (i j : Nat) (hij : i ≠ j) : PtOk c [i, j] (pt2 i j) (gTup c.K 2 (gCons (gName i) (gCons (gName j) gNil))) := by
  intro w σa σb st σ H x v Q rl rx e q
  unfold pt2 at e
  split at e
  · rename_i a b hv
    cases e
    obtain ⟨p, us, rfl, h, pr⟩ := viewT_ok rl.rs rx hv
    obtain ⟨u1, u2, rfl, r1, r2⟩ := pr2 pr.pair
    refine ⟨p, _, rfl, h, rfl, _, _, rfl, _, _, rfl, rfl, ?_⟩
    refine q _ ((rl.set (a := .d a) r1).set (a := .d b) r2) ?_
    show (((((σ.set j none).set i none).set i (some u1)).set j (some u2)).set j none).set i none = (σ.set j none).set i none
    rw [List.set_set, List.set_set, List.set_comm (some u1) none hij, List.set_set, List.set_set]
  · cases e
theorem PTs.imp {X : Cx} {ifs : List Expr} {t t' : TT} (h : PTs X ifs t) (i : ∀ σ H Q, t' σ H Q → t σ H Q) : PTs X ifs t' := ⟨fun pins s σ H Q I q => h.run pins s σ H Q I (i σ H Q q)⟩
theorem ts_nil {X : Cx} : PTs X [] (tT c W mYes) := PTs.imp pts_nil fun _ _ _ ⟨_, _, _, rl, p⟩ => p.here rl rfl
theorem ts_one {X : Cx} {e : Expr} {t : MT} (h : PT X e (tT c W t)) : PTs X [e] (tT c W t) := pts_one h
theorem bind_need {α β γ : Type} {R : Wd → Nat → β → α → Prop} {Q : β → Hp → Prop} {p : Prop} {r : Res γ} {k : γ → Store → Res α} (h : Post c w n σa σ R W Q ((need p r).bind k)) : p ∧ Post c w n σa σ R W Q (r.bind k) := by
  unfold need at h
  by_cases q : p
  · rw [if_pos q] at h; exact ⟨q, h⟩
  · rw [if_neg q] at h; exact h.elim
theorem entail_lc {k : Bool} {vs : List Nat} {pt : Pt} {g : TG} {it : MI} {t : MT} {f : ME} (hp : PtOk c vs pt g) (σ : L2.St) (H : Hp) (Q : VK) : tM c W (mLc k vs pt it t f) σ H Q → tLc (tMI c W it) g (tT c W0 t) (tM c W0 f) vs σ H Q := fun ⟨w, σa, st, rl, p⟩ =>
  ⟨w, σa, st, rl, p.bind fun J wk st1 w1 H1 e1 rl1 hk p1 D hD => by
    let wD := w1.cell st1.length D
    have rlD : Rel c wD σa (st1 ++ [.lst []]) σ (upd H1 D (.lst [])) := rl1.push (o := .lst []) hD ⟨rl1.rs.same.free hD, [], upd_same, .nil⟩
    have extD : Ext w1 st1.length wD (st1.length + 1) := w1.cell_ext st1.length D
    have lenD : (st1 ++ [Cell.lst []]).length = st1.length + 1 := by rw [List.length_append]; rfl
    have atD : ∀ {w' : Wd} {n' : Nat}, Ext wD (st1.length + 1) w' n' → w'.E st1.length = D := fun e => (e.cells _ (Nat.lt_succ_self _)).trans (w1.cell_at _ _)
    have p2 := p1
    refine ⟨fun i m H' => ∃ w' st', m = wk.items.length - i ∧ i ≤ wk.items.length ∧ Ext wD (st1.length + 1) w' st'.length ∧ Rel c w' σa st' σ H' ∧ Post c w1 st1.length σa σ (RA c) W Q ((lcA pt t f st1.length wk.ok (wipeA σa vs) (wk.items.drop i) st').bind fun _ st2 => lcEnd k st1 st2),
      ⟨_, wD, _, rfl, Nat.zero_le _, by rw [lenD]; exact Ext.refl _ _, rlD, p2⟩, ?_⟩
    rintro i m H2 ⟨w2, st2, rfl, hi, e2, rl2, p2⟩
    by_cases hlt : i < wk.items.length
    · have hx : wk.items[i]? = some wk.items[i] := List.getElem?_eq_getElem hlt
      rw [List.drop_eq_getElem_cons hlt, lcA] at p2
      obtain ⟨ok, p2⟩ := bind_need p2
      obtain ⟨go, yl⟩ := (hk w2 st2 H2 (extD.trans e2) rl2.rs ok).2 i _ hx
      refine .inr ⟨go, fun H' => ∃ w' st', Ext wD (st1.length + 1) w' st'.length ∧ Rel c w' σa st' σ H' ∧ Post c w1 st1.length σa σ (RA c) W Q ((lcA pt t f st1.length wk.ok (wipeA σa vs) (wk.items.drop (i + 1)) st').bind fun _ st2 => lcEnd k st1 st2),
        fun H' ⟨w', st', q⟩ => ⟨wk.items.length - (i + 1), by omega, w', st', rfl, hlt, q⟩, fun v H3 y => ?_⟩
      obtain ⟨w3, e3, rl3, ra⟩ := yl v H3 y σa σ rl2
      split at p2
      · exact p2.elim
      · rename_i σ1 hpt
        refine hp w3 σa σ1 st2 σ H3 _ v _ (rl3.wipe vs) ra hpt fun σ' rl4 hw => ⟨hw, w3, σ1, st2, rl4, ?_⟩
        cases ht : t σ1 st2 with
        | no => rw [ht] at p2; exact p2.elim
        | ex _ _ => rw [ht] at p2; exact p2.elim
        | ok b st3 =>
          rw [ht] at p2
          intro b' w4 H4 e4 rl5 hb
          subst hb
          have rl5b : Rel c w4 σa st3 σ H4 := rl3.of e4 rl5.rs
          cases b' with
          | false => exact iteF ⟨w4, st3, (e2.trans e3).trans e4, rl5b, p2⟩
          | true =>
            refine iteT ⟨w4, σ1, st3, rl5, ?_⟩
            have p2 : Post c w1 st1.length σa σ (RA c) W Q (((noEx (f σ1 st3)).bind fun y st2 => match st2[st1.length]? with
        | some (.lst acc) => ifc (acc.length < SZ) (lcA pt t f st1.length wk.ok (wipeA σa vs) (wk.items.drop (i + 1)) (st2.set st1.length (.lst (acc ++ [y])))) .no
        | _ => .no).bind fun _ st2 => lcEnd k st1 st2) := p2
            cases hf : f σ1 st3 with
            | no => rw [hf] at p2; exact p2.elim
            | ex _ _ => rw [hf] at p2; exact p2.elim
            | ok y st4 =>
              rw [hf] at p2
              intro u w5 H5 e5 rl6 ru
              have p2 : Post c w1 st1.length σa σ (RA c) W Q ((match st4[st1.length]? with
        | some (.lst acc) => ifc (acc.length < SZ) (lcA pt t f st1.length wk.ok (wipeA σa vs) (wk.items.drop (i + 1)) (st4.set st1.length (.lst (acc ++ [y])))) .no
        | _ => .no).bind fun _ st2 => lcEnd k st1 st2) := p2
              have ex := ((e2.trans e3).trans e4).trans e5
              have rl6b : Rel c w5 σa st4 σ H5 := rl5b.of e5 rl6.rs
              split at p2
              · rename_i acc hacc
                unfold ifc at p2
                split at p2
                · rename_i hl
                  obtain ⟨g, us, eu, pr⟩ := rl6.rs.cell _ _ hacc
                  have rw5 := rl6b.write (y := .lst (acc ++ [y])) (o := .lst (us ++ [u])) hacc g ⟨g, _, upd_same, paired_append pr (.cons ru .nil)⟩
                  rw [atD ex] at eu rw5
                  exact ⟨us, eu, by rw [pr.length]; exact Nat.lt_of_lt_of_le hl (by decide), w5, _, by rw [List.length_set]; exact ex, rw5, p2⟩
                · exact p2.elim
              · exact p2.elim
    · have e : i = wk.items.length := by omega
      subst e
      rw [List.drop_length, lcA] at p2
      obtain ⟨ok, p2⟩ := bind_need p2
      refine .inl ⟨(hk w2 st2 H2 (extD.trans e2) rl2.rs ok).1, ?_⟩
      have p2 : Post c w1 st1.length σa σ (RA c) W Q (lcEnd k st1 st2) := p2
      unfold lcEnd at p2
      split at p2
      · rename_i acc hacc
        have hD2 := atD e2
        cases k with
        | true => exact p2 _ _ _ (extD.trans e2) rl2 ⟨RelS.lt hacc, by rw [hD2]⟩
        | false =>
          simp only [Bool.false_eq_true, if_false] at p2
          split at p2
          · rename_i ds hds
            obtain ⟨tr, p2⟩ := p2.need
            obtain ⟨g, us, eu, pr⟩ := rl2.rs.cell _ _ hacc
            rw [allD_eq hds] at pr
            have fr := rl2.freeze (d := .list ds) hacc g eu ⟨_, us, rfl, upd_same, (ras_of_d pr).same (same_upd g)⟩
            rw [hD2] at fr eu g
            have tr2 : Trunc st1 (st2.set st1.length (.fz (.list ds))) := ⟨by rw [List.length_set]; exact tr.1, fun i hi => by rw [List.getElem?_set_ne (Nat.ne_of_gt hi)]; exact tr.2 i hi⟩
            have rs := rl1.rs.trunc fr.rs tr2
            rw [List.take_set_of_le (Nat.le_refl _)] at rs
            have ext3 : Ext w1 st1.length (w2.put D (.lst us)) (st2.take st1.length).length := ⟨(extD.trans e2).same.trans (same_upd g), (extD.trans e2).cells, by rw [take_len tr]; exact Nat.le_refl _⟩
            exact p2 _ _ _ ext3 (rl1.of ext3 rs) ⟨D, us, rfl, upd_same, (ras_of_d pr).same (same_upd g)⟩
          · exact p2.elim
      · exact p2.elim⟩
end
section
variable {X : Cx} {c : Ctx} {W : WX} {elt tg iter e : Expr} {ifs : List Expr} {scope : Scope} {own : List (Str × Nat)} {pos : Pos} {pt : Pt} {g : TG} {it : MI} {t : MT} {f : ME}
theorem e_lc (k : Bool) (hp : PtOk c (own.map (·.2)) pt g) (hc : X.calm = true) (hN : X.N.Nodup) (hi : PI X tg iter (tMI c W it)) (ok : BlkOk X.N X.env.scope scope own)
    (hg : ∀ (s : Shared) (H : Hp) (C : Addr) (cl : List (Str × Addr)) (fp : List Addr), PG (X.blk s H scope (compEnvC scope cl C X.env) fp) tg g) (ht : ∀ (s : Shared) (H : Hp) (C : Addr) (cl : List (Str × Addr)) (fp : List Addr), PTs (X.blk s H scope (compEnvC scope cl C X.env) fp) ifs (tT c W0 t))
    (he : ∀ (s : Shared) (H : Hp) (C : Addr) (cl : List (Str × Addr)) (fp : List Addr), PE (X.blk s H scope (compEnvC scope cl C X.env) fp) elt (tM c W0 f)) (hs : ∀ x, foldedSetIterable iter X.env x = pure x := by intro _; rfl) :
    PE X (.ListComp elt [⟨tg, iter, ifs, 0⟩] scope pos) (tM c W (mLc k (own.map (·.2)) pt it t f)) := pe_imp (pe_lc hc hN hi ok hg ht he hs) (entail_lc hp)
/-- name = [..] -/
theorem s_setLc (k : Bool) {i : Nat} {y : Str} {py : Pos} {spos : Pos} (hp : PtOk c (own.map (·.2)) pt g) (hc : X.calm = true) (hN : X.N.Nodup) (hy : X.N[i]? = some y) (hyl : X.env.scope.names.lookup y = some .local)
    (hsw : swapsWith (.ListComp elt [⟨tg, iter, ifs, 0⟩] scope pos) (some (.Name y py)) spos.line X.env = pure true) (hi : PI X tg iter (tMI c W it)) (ok : BlkOk X.N X.env.scope scope own)
    (hg : ∀ (s : Shared) (H : Hp) (C : Addr) (cl : List (Str × Addr)) (fp : List Addr), PG (X.blk s H scope (compEnvC scope cl C X.env) fp) tg g) (ht : ∀ (s : Shared) (H : Hp) (C : Addr) (cl : List (Str × Addr)) (fp : List Addr), PTs (X.blk s H scope (compEnvC scope cl C X.env) fp) ifs (tT c W0 t))
    (he : ∀ (s : Shared) (H : Hp) (C : Addr) (cl : List (Str × Addr)) (fp : List Addr), PE (X.blk s H scope (compEnvC scope cl C X.env) fp) elt (tM c W0 f)) (hs : ∀ x, foldedSetIterable iter X.env x = pure x := by intro _; rfl) :
    PS X (.Assign [.Name y py] (.ListComp elt [⟨tg, iter, ifs, 0⟩] scope pos) spos) (tMS c W (mSet i (mLc k (own.map (·.2)) pt it t f))) :=
  ps_imp (ps_setLc hc hN hy hyl hsw hi ok hg ht he hs) fun D σ H ⟨w, σa, st, rl, p⟩ => entail_lc hp σ H _ ⟨w, σa, st, rl, PostO.lift p fun _ _ _ _ _ _ rl1 r p1 => p1.nxt (rl1.set r)⟩
end
end Am
/-! ### Am: constants of the module -/
namespace Am
open PySem PySem.Spec PyProof.Rows L2
section
variable {X : Cx} {c : Ctx} {W : WX} {x : Str} {pos : Pos}
theorem e_glob {v : V} {d : D} (h : Rw.Glob c.mg x v) (hd : ∀ G, DR c G d v := by exact fun _ => rfl) (hgl : Gl X x := by rfl) (F : Fits X c := by exact ⟨rfl, rfl⟩) (hdb : (x == ("__debug__" : Str)) = false := by decide) : PE X (.Name x pos) (tM c W (mC d)) := by
  obtain ⟨u, hm, r⟩ := h
  exact e_c (pe_glob hgl (by rw [F.mg]; exact hm) r hdb) hd
theorem flats_of {G : Hp} : ∀ {ds : List D}, ds.all flatD = true → DRs c G ds (ds.map dV)
  | [], _ => rfl
  | d :: ds, h => by
    rw [List.all_cons, Bool.and_eq_true] at h
    refine ⟨dV d, _, rfl, ?_, flats_of h.2⟩
    cases d <;> first | exact rfl | exact nomatch h.1
theorem e_globT {ds : List D} (h : Rw.GlobT c.K c.mg x (ds.map dV)) (hf : ds.all flatD = true) (hgl : Gl X x := by rfl) (F : Fits X c := by exact ⟨rfl, rfl⟩) (hdb : (x == ("__debug__" : Str)) = false := by decide) : PE X (.Name x pos) (tM c W (mC (.kt ds))) := by
  obtain ⟨a, hm, o, its, n, h1, h2, h3, h4, h5⟩ := h
  exact ⟨fun pins s σ H Q I ⟨w, σa, st, rl, p⟩ => ld_glob I hgl (by rw [F.mg]; exact hm) ⟨.ref a, H, I, rfl, p.here rl ⟨a, _, rfl, .inr ⟨o, its, n, h1, h2, h3, h4, h5⟩, flats_of hf⟩⟩ hdb⟩
theorem e_fn {f : Addr} (h : c.mg x = some (.ref f)) (hgl : Gl X x := by rfl) (F : Fits X c := by exact ⟨rfl, rfl⟩) (hdb : (x == ("__debug__" : Str)) = false := by decide) : PE X (.Name x pos) (tM c W (mC (.fn x))) :=
  ⟨fun pins s σ H Q I ⟨w, σa, st, rl, p⟩ => ld_glob I hgl (by rw [F.mg]; exact h) ⟨.ref f, H, I, rfl, p.here rl ⟨f, h, rfl⟩⟩ hdb⟩
theorem mt_index' {K : PySem.W.Frag} (h : X.K = K) : MtR X "list.index" (rIndex K) := by rw [← h]; exact mt_index
end
end Am
/-! ### Am: reckoning with machines -/
namespace Am
open PySem PySem.Spec PyProof.Rows L2
section
variable {α β γ : Type} {σ : Slots} {st : Store} {g : MG} {b : MS} {ok : Store → Prop}
theorem bind_ok (a : α) (st : Store) (k : α → Store → Res β) : (Res.ok a st).bind k = k a st := rfl
theorem bind_ex (x : Exn) (st : Store) (k : α → Store → Res β) : (Res.ex x st).bind k = .ex x st := rfl
theorem lift_ok (a : α) (st : Store) (σ : Slots) (k : α → Store → Out) : lift (Res.ok a st) σ k = k a st := rfl
theorem lift_ex (x : Exn) (st : Store) (σ : Slots) (k : α → Store → Out) : lift (Res.ex x st) σ k = .ex x σ st := rfl
theorem need_true (r : Res α) : need True r = r := need_pos trivial
theorem needO_true (o : Out) : needO True o = o := needO_pos trivial
/-! what comes behind stays folded -/
def seqO (o : Out) (k : MS) : Out := match o with
  | .nx σ1 st1 => k σ1 st1
  | o => o
theorem mSeq_ap (m k : MS) (σ : Slots) (st : Store) : mSeq m k σ st = seqO (m σ st) k := by
  unfold mSeq seqO
  cases m σ st <;> rfl
theorem seqO_nx (σ : Slots) (st : Store) (k : MS) : seqO (.nx σ st) k = k σ st := rfl
theorem seqO_rt (a : A) (st : Store) (k : MS) : seqO (.rt a st) k = .rt a st := rfl
theorem seqO_bk (σ : Slots) (st : Store) (k : MS) : seqO (.bk σ st) k = .bk σ st := rfl
theorem seqO_ct (σ : Slots) (st : Store) (k : MS) : seqO (.ct σ st) k = .ct σ st := rfl
theorem seqO_ex (x : Exn) (σ : Slots) (st : Store) (k : MS) : seqO (.ex x σ st) k = .ex x σ st := rfl
def ifO (r : Res Bool) (m k : MS) (σ : Slots) : Out := lift r σ fun b st1 => if b then m σ st1 else k σ st1
theorem mIf_ap (t : MT) (m k : MS) (σ : Slots) (st : Store) : mIf t m k σ st = ifO (t σ st) m k σ := rfl
theorem ifO_t (st : Store) (m k : MS) (σ : Slots) : ifO (.ok true st) m k σ = m σ st := rfl
theorem ifO_f (st : Store) (m k : MS) (σ : Slots) : ifO (.ok false st) m k σ = k σ st := rfl
theorem ifO_ex (x : Exn) (st : Store) (m k : MS) (σ : Slots) : ifO (.ex x st) m k σ = .ex x σ st := rfl
theorem ifO_pos {p : Prop} [Decidable p] (h : p) (st : Store) (m k : MS) (σ : Slots) : ifO (.ok (decide p) st) m k σ = m σ st := by rw [decide_eq_true h]; rfl
theorem ifO_neg {p : Prop} [Decidable p] (h : ¬ p) (st : Store) (m k : MS) (σ : Slots) : ifO (.ok (decide p) st) m k σ = k σ st := by rw [decide_eq_false h]; rfl
def binR (r : Res A) (g : A → A → Store → Res A) (fb : ME) (σ : Slots) : Res A := r.bind fun x st1 => (fb σ st1).bind fun y st2 => g x y st2
def bin2 (r : Res A) (g : A → A → Store → Res A) (x : A) : Res A := r.bind fun y st2 => g x y st2
theorem mBin_ap (g : A → A → Store → Res A) (fa fb : ME) (σ : Slots) (st : Store) : mBin g fa fb σ st = binR (fa σ st) g fb σ := rfl
theorem binR_ok (g : A → A → Store → Res A) (fb : ME) (x : A) (σ : Slots) (st : Store) : binR (.ok x st) g fb σ = bin2 (fb σ st) g x := rfl
theorem bin2_ok (g : A → A → Store → Res A) (x y : A) (st : Store) : bin2 (.ok y st) g x = g x y st := rfl
def consR (r : Res A) (fr : MA) (σ : Slots) : Res (List A) := r.bind fun x st1 => (fr σ st1).bind fun xs st2 => .ok (x :: xs) st2
def cons2 (r : Res (List A)) (x : A) : Res (List A) := r.bind fun xs st2 => .ok (x :: xs) st2
theorem mCons_ap (fa : ME) (fr : MA) (σ : Slots) (st : Store) : mCons fa fr σ st = consR (fa σ st) fr σ := rfl
theorem consR_ok (fr : MA) (x : A) (σ : Slots) (st : Store) : consR (.ok x st) fr σ = cons2 (fr σ st) x := rfl
theorem cons2_ok (x : A) (xs : List A) (st : Store) : cons2 (.ok xs st) x = .ok (x :: xs) st := rfl
def tstR (r : Res A) : Res Bool := r.bind fun a st1 => match a with
  | .d (.bl b) => .ok b st1
  | _ => .no
theorem mTst_ap (f : ME) (σ : Slots) (st : Store) : mTst f σ st = tstR (f σ st) := by
  unfold mTst tstR
  congr 1
theorem tstR_ok (b : Bool) (st : Store) : tstR (.ok (.d (.bl b)) st) = .ok b st := rfl
def setO (r : Res A) (i : Nat) (σ : Slots) : Out := lift r σ fun a st1 => .nx (σ.set i (some a)) st1
theorem mSet_ap (i : Nat) (f : ME) (σ : Slots) (st : Store) : mSet i f σ st = setO (f σ st) i σ := rfl
theorem setO_ok (a : A) (i : Nat) (σ : Slots) (st : Store) : setO (.ok a st) i σ = .nx (σ.set i (some a)) st := rfl
theorem setO_ex (x : Exn) (i : Nat) (σ : Slots) (st : Store) : setO (.ex x st) i σ = .ex x σ st := rfl
def retO (r : Res A) (σ : Slots) : Out := lift r σ fun a st1 => .rt a st1
theorem mRet_ap (f : ME) (σ : Slots) (st : Store) : mRet f σ st = retO (f σ st) σ := rfl
theorem retO_ok (a : A) (σ : Slots) (st : Store) : retO (.ok a st) σ = .rt a st := rfl
theorem retO_ex (x : Exn) (σ : Slots) (st : Store) : retO (.ex x st) σ = .ex x σ st := rfl
def doO (r : Res A) (σ : Slots) : Out := lift r σ fun _ st1 => .nx σ st1
theorem mDo_ap (f : ME) (σ : Slots) (st : Store) : mDo f σ st = doO (f σ st) σ := rfl
theorem doO_ok (a : A) (σ : Slots) (st : Store) : doO (.ok a st) σ = .nx σ st := rfl
theorem doO_ex (x : Exn) (σ : Slots) (st : Store) : doO (.ex x st) σ = .ex x σ st := rfl
theorem mList_ap (k : Bool) (fr : MA) (σ : Slots) (st : Store) : mList k fr σ st = (fr σ st).bind (mkL k) := rfl
theorem mTup_ap (fr : MA) (σ : Slots) (st : Store) : mTup fr σ st = (fr σ st).bind mkT := rfl
theorem mCallB_ap (g : GC) (fs : MA) (σ : Slots) (st : Store) : mCallB g fs σ st = (fs σ st).bind g := rfl
theorem mCall_ap (f : MF) (fs : MA) (σ : Slots) (st : Store) : mCall f fs σ st = (fs σ st).bind f := rfl
noncomputable def slR (r : Res A) (k : Bool) (l u : MO) (σ : Slots) : Res A := r.bind fun x st1 => (l σ st1).bind fun lo st2 => (u σ st2).bind fun hi st3 => gSl k x lo hi st3
noncomputable def sl2 (r : Res (Option Int)) (k : Bool) (x : A) (u : MO) (σ : Slots) : Res A := r.bind fun lo st2 => (u σ st2).bind fun hi st3 => gSl k x lo hi st3
noncomputable def sl3 (r : Res (Option Int)) (k : Bool) (x : A) (lo : Option Int) : Res A := r.bind fun hi st3 => gSl k x lo hi st3
theorem mSl_ap (k : Bool) (f : ME) (l u : MO) (σ : Slots) (st : Store) : mSl k f l u σ st = slR (f σ st) k l u σ := rfl
theorem slR_ok (k : Bool) (x : A) (l u : MO) (σ : Slots) (st : Store) : slR (.ok x st) k l u σ = sl2 (l σ st) k x u σ := rfl
theorem sl2_ok (k : Bool) (x : A) (lo : Option Int) (u : MO) (σ : Slots) (st : Store) : sl2 (.ok lo st) k x u σ = sl3 (u σ st) k x lo := rfl
theorem sl3_ok (k : Bool) (x : A) (lo hi : Option Int) (st : Store) : sl3 (.ok hi st) k x lo = gSl k x lo hi st := rfl
def partR (r : Res A) : Res (Option Int) := r.bind fun a st1 => match a with
  | .d (.int i) => .ok (some i) st1
  | _ => .no
theorem mPart_ap (f : ME) (σ : Slots) (st : Store) : mPart f σ st = partR (f σ st) := by
  unfold mPart partR
  congr 1
theorem partR_ok (i : Int) (st : Store) : partR (.ok (.d (.int i)) st) = .ok (some i) st := rfl
def meth2 (v : Option (List A)) (g : GM) (x : A) (fs : MA) (σ : Slots) (st : Store) : Res A := match v with
  | some _ => (fs σ st).bind (g x)
  | none => .no
def methR (r : Res A) (g : GM) (fs : MA) (σ : Slots) : Res A := r.bind fun x st1 => meth2 (viewS st1 x) g x fs σ st1
theorem mMethL_ap (g : GM) (f : ME) (fs : MA) (σ : Slots) (st : Store) : mMethL g f fs σ st = methR (f σ st) g fs σ := by
  unfold mMethL methR
  congr 1
theorem methR_ok (g : GM) (x : A) (fs : MA) (σ : Slots) (st : Store) : methR (.ok x st) g fs σ = meth2 (viewS st x) g x fs σ st := rfl
theorem meth2_ok (v : List A) (g : GM) (x : A) (fs : MA) (σ : Slots) (st : Store) : meth2 (some v) g x fs σ st = (fs σ st).bind (g x) := rfl
noncomputable def forO (r : Res Walk) (g : MG) (b : MS) (σ : Slots) : Out := lift r σ fun k st1 => forA g b k.ok k.items σ st1
theorem mFor_ap (it : MI) (g : MG) (b : MS) (σ : Slots) (st : Store) : mFor it g b σ st = forO (it σ st) g b σ := rfl
theorem forO_ok (k : Walk) (g : MG) (b : MS) (σ : Slots) (st : Store) : forO (.ok k st) g b σ = forA g b k.ok k.items σ st := rfl
def augO (v : Option (Option A)) (i : Nat) (g : A → A → Store → Res A) (f : ME) (σ : Slots) (st : Store) : Out := match v with
  | some (some x) => lift (f σ st) σ fun y st1 => lift (g x y st1) σ fun z st2 => .nx (σ.set i (some z)) st2
  | _ => .no
def aug2 (r : Res A) (i : Nat) (g : A → A → Store → Res A) (x : A) (σ : Slots) : Out := lift r σ fun y st1 => lift (g x y st1) σ fun z st2 => .nx (σ.set i (some z)) st2
theorem mAug_ap (i : Nat) (g : A → A → Store → Res A) (f : ME) (σ : Slots) (st : Store) : mAug i g f σ st = augO σ[i]? i g f σ st := by
  unfold mAug augO
  rcases σ[i]? with _ | _ | _ <;> rfl
theorem augO_ok (x : A) (i : Nat) (g : A → A → Store → Res A) (f : ME) (σ : Slots) (st : Store) : augO (some (some x)) i g f σ st = aug2 (f σ st) i g x σ := rfl
theorem aug2_ok (y : A) (i : Nat) (g : A → A → Store → Res A) (x : A) (σ : Slots) (st : Store) : aug2 (.ok y st) i g x σ = setO (g x y st) i σ := rfl
noncomputable def endR (k : Nat) (st : Store) (o : Out) : Res A := match o with
  | .nx _ st1 => exitR k st (.d .non) st1
  | .rt a st1 => exitR k st a st1
  | .ex x _ st1 => need (k = 0 ∨ Trunc st st1) (.ex x (if k = 0 then st1 else st1.take st.length))
  | _ => .no
theorem mF_ap (np nn k : Nat) (m : MS) (as : List A) (st : Store) (h : as.length = np) : mF np nn k m as st = endR k st (m (as.map some ++ List.replicate (nn - as.length) none) st) := by
  unfold mF runDef endR
  rw [if_pos h] <;> (generalize m _ _ = o; cases o <;> rfl)
theorem mF_0 (nn k : Nat) (m : MS) (st : Store) : mF 0 nn k m [] st = endR k st (m ([] ++ List.replicate (nn - 0) none) st) := mF_ap _ _ _ _ _ _ rfl
theorem mF_1 (nn k : Nat) (m : MS) (a0 : A) (st : Store) : mF 1 nn k m [a0] st = endR k st (m ([some a0] ++ List.replicate (nn - 1) none) st) := mF_ap _ _ _ _ _ _ rfl
theorem mF_2 (nn k : Nat) (m : MS) (a0 a1 : A) (st : Store) : mF 2 nn k m [a0, a1] st = endR k st (m ([some a0, some a1] ++ List.replicate (nn - 2) none) st) := mF_ap _ _ _ _ _ _ rfl
theorem mF_3 (nn k : Nat) (m : MS) (a0 a1 a2 : A) (st : Store) : mF 3 nn k m [a0, a1, a2] st = endR k st (m ([some a0, some a1, some a2] ++ List.replicate (nn - 3) none) st) := mF_ap _ _ _ _ _ _ rfl
theorem mF_4 (nn k : Nat) (m : MS) (a0 a1 a2 a3 : A) (st : Store) : mF 4 nn k m [a0, a1, a2, a3] st = endR k st (m ([some a0, some a1, some a2, some a3] ++ List.replicate (nn - 4) none) st) := mF_ap _ _ _ _ _ _ rfl
theorem mF_5 (nn k : Nat) (m : MS) (a0 a1 a2 a3 a4 : A) (st : Store) : mF 5 nn k m [a0, a1, a2, a3, a4] st = endR k st (m ([some a0, some a1, some a2, some a3, some a4] ++ List.replicate (nn - 5) none) st) := mF_ap _ _ _ _ _ _ rfl
theorem mF_6 (nn k : Nat) (m : MS) (a0 a1 a2 a3 a4 a5 : A) (st : Store) : mF 6 nn k m [a0, a1, a2, a3, a4, a5] st = endR k st (m ([some a0, some a1, some a2, some a3, some a4, some a5] ++ List.replicate (nn - 6) none) st) := mF_ap _ _ _ _ _ _ rfl
theorem mF_7 (nn k : Nat) (m : MS) (a0 a1 a2 a3 a4 a5 a6 : A) (st : Store) : mF 7 nn k m [a0, a1, a2, a3, a4, a5, a6] st = endR k st (m ([some a0, some a1, some a2, some a3, some a4, some a5, some a6] ++ List.replicate (nn - 7) none) st) := mF_ap _ _ _ _ _ _ rfl
theorem mF_8 (nn k : Nat) (m : MS) (a0 a1 a2 a3 a4 a5 a6 a7 : A) (st : Store) : mF 8 nn k m [a0, a1, a2, a3, a4, a5, a6, a7] st = endR k st (m ([some a0, some a1, some a2, some a3, some a4, some a5, some a6, some a7] ++ List.replicate (nn - 8) none) st) := mF_ap _ _ _ _ _ _ rfl
theorem endR_nx (k : Nat) (st st1 : Store) (σ : Slots) : endR k st (.nx σ st1) = exitR k st (.d .non) st1 := rfl
theorem endR_rt (k : Nat) (st st1 : Store) (a : A) : endR k st (.rt a st1) = exitR k st a st1 := rfl
theorem endR_ex0 (x : Exn) (st st1 : Store) (σ : Slots) : endR 0 st (.ex x σ st1) = .ex x st1 := need_pos (.inl rfl)
def andR (r : Res Bool) (g : MT) (σ : Slots) : Res Bool := r.bind fun b st1 => if b then g σ st1 else .ok false st1
theorem mAnd_ap (f g : MT) (σ : Slots) (st : Store) : mAnd f g σ st = andR (f σ st) g σ := rfl
theorem andR_t (st : Store) (g : MT) (σ : Slots) : andR (.ok true st) g σ = g σ st := rfl
theorem andR_f (st : Store) (g : MT) (σ : Slots) : andR (.ok false st) g σ = .ok false st := rfl
def orR (r : Res Bool) (g : MT) (σ : Slots) : Res Bool := r.bind fun b st1 => if b then .ok true st1 else g σ st1
theorem mOr_ap (f g : MT) (σ : Slots) (st : Store) : mOr f g σ st = orR (f σ st) g σ := rfl
theorem orR_t (st : Store) (g : MT) (σ : Slots) : orR (.ok true st) g σ = .ok true st := rfl
theorem orR_f (st : Store) (g : MT) (σ : Slots) : orR (.ok false st) g σ = g σ st := rfl
def iteR (r : Res Bool) (f g : ME) (σ : Slots) : Res A := r.bind fun b st1 => if b then f σ st1 else g σ st1
theorem mIfE_ap (t : MT) (f g : ME) (σ : Slots) (st : Store) : mIfE t f g σ st = iteR (t σ st) f g σ := rfl
theorem iteR_t (st : Store) (f g : ME) (σ : Slots) : iteR (.ok true st) f g σ = f σ st := rfl
theorem iteR_f (st : Store) (f g : ME) (σ : Slots) : iteR (.ok false st) f g σ = g σ st := rfl
def andV (r : Res A) (g : ME) (σ : Slots) : Res A := r.bind fun a st1 => match truthA st1 a with
  | some true => g σ st1
  | some false => .ok a st1
  | none => .no
theorem andV_t (st : Store) (g : ME) (σ : Slots) : andV (.ok (.d (.bl true)) st) g σ = g σ st := rfl
theorem andV_f (st : Store) (g : ME) (σ : Slots) : andV (.ok (.d (.bl false)) st) g σ = .ok (.d (.bl false)) st := rfl
def orV (r : Res A) (g : ME) (σ : Slots) : Res A := r.bind fun a st1 => match truthA st1 a with
  | some true => .ok a st1
  | some false => g σ st1
  | none => .no
theorem orV_t (st : Store) (g : ME) (σ : Slots) : orV (.ok (.d (.bl true)) st) g σ = .ok (.d (.bl true)) st := rfl
theorem orV_f (st : Store) (g : ME) (σ : Slots) : orV (.ok (.d (.bl false)) st) g σ = g σ st := rfl
theorem mAndV_ap (f g : ME) (σ : Slots) (st : Store) : mAndV f g σ st = andV (f σ st) g σ := by
  unfold mAndV andV
  congr 1
theorem mOrV_ap (f g : ME) (σ : Slots) (st : Store) : mOrV f g σ st = orV (f σ st) g σ := by
  unfold mOrV orV
  congr 1
/-- a for loop by what holds ahead of each turn -/
theorem forA_inv {xs : List A} (I : Nat → Slots → Store → Prop) (h0 : I 0 σ st) (hok : ∀ i σ st, i ≤ xs.length → I i σ st → ok st)
    (hs : ∀ i x σ st, xs[i]? = some x → I i σ st → ∃ σ1 st1 σ2 st2, g x σ st = some (σ1, st1) ∧ (b σ1 st1 = .nx σ2 st2 ∨ b σ1 st1 = .ct σ2 st2) ∧ I (i + 1) σ2 st2) : ∃ σ' st', forA g b ok xs σ st = .nx σ' st' ∧ I xs.length σ' st' := by
  induction xs generalizing σ st I with
  | nil => exact ⟨σ, st, by rw [forA, needO_pos (hok 0 _ _ (Nat.le_refl _) h0)], h0⟩
  | cons x xs ih =>
    obtain ⟨σ1, st1, σ2, st2, e1, e2, i1⟩ := hs 0 x σ st rfl h0
    obtain ⟨σ3, st3, e3, i3⟩ := ih (fun i => I (i + 1)) i1 (fun i σ st hi h => hok (i + 1) σ st (Nat.succ_le_succ hi) h) (fun i y σ st hy h => hs (i + 1) y σ st hy h)
    refine ⟨σ3, st3, ?_, i3⟩
    rw [forA, needO_pos (hok 0 _ _ (Nat.zero_le _) h0), e1]
    rcases e2 with e2 | e2
    · simp only [e2]; exact e3
    · simp only [e2]; exact e3
theorem rangeA_get {lo s : Int} {n i : Nat} {x : A} (h : (rangeA lo n s)[i]? = some x) : i < n ∧ x = .d (.int (lo + (i : Nat) * s)) := by
  unfold rangeA at h
  rw [List.getElem?_map] at h
  obtain ⟨j, h1, h2⟩ := Option.map_eq_some_iff.mp h
  obtain ⟨hl, h3⟩ := List.getElem?_eq_some_iff.mp h1
  rw [List.length_range] at hl
  rw [List.getElem_range] at h3
  subst h3
  exact ⟨hl, h2.symm⟩
theorem rangeA_length (lo s : Int) (n : Nat) : (rangeA lo n s).length = n := by unfold rangeA; rw [List.length_map, List.length_range]
/-- .. over a range by ones -/
theorem forR_inv {lo : Int} {n : Nat} (I : Nat → Slots → Store → Prop) (h0 : I 0 σ st) (hok : ∀ i σ st, i ≤ n → I i σ st → ok st)
    (hs : ∀ i σ st, i < n → I i σ st → ∃ σ1 st1 σ2 st2, g (.d (.int (lo + (i : Nat)))) σ st = some (σ1, st1) ∧ (b σ1 st1 = .nx σ2 st2 ∨ b σ1 st1 = .ct σ2 st2) ∧ I (i + 1) σ2 st2) : ∃ σ' st', forA g b ok (rangeA lo n 1) σ st = .nx σ' st' ∧ I n σ' st' := by
  have := forA_inv (g := g) (b := b) (ok := ok) (xs := rangeA lo n 1) I h0 (fun i σ st hi h => hok i σ st (by rw [rangeA_length] at hi; exact hi) h) (fun i x σ st hx h => by
    obtain ⟨hi, rfl⟩ := rangeA_get hx
    rw [Int.mul_one]
    exact hs i σ st hi h)
  rw [rangeA_length] at this
  exact this
end
/-! ### comprehensions whose element changes nothing -/
section
variable {σ : Slots} {st : Store} {pt : Pt} {t : MT} {f : ME} {ok : Store → Prop}
theorem set_last (st : Store) (x y : Cell) : (st ++ [x]).set st.length y = st ++ [y] := by
  rw [List.set_append_right _ _ (Nat.le_refl _), Nat.sub_self]; rfl
theorem get_last (st : Store) (x : Cell) : (st ++ [x])[st.length]? = some x := by
  rw [List.getElem?_append_right (Nat.le_refl _), Nat.sub_self]; rfl
theorem lcA_map {xs : List A} (p : A → Bool) (h : A → D) (acc : List D) (hok : ∀ ds : List D, ok (st ++ [.lst (ds.map A.d)])) (hl : acc.length + xs.length ≤ SZ)
    (ht : ∀ x ∈ xs, ∀ ac : List D, ∃ σ1, pt σ x = some σ1 ∧ t σ1 (st ++ [.lst (ac.map A.d)]) = .ok (p x) (st ++ [.lst (ac.map A.d)]) ∧ (p x = true → f σ1 (st ++ [.lst (ac.map A.d)]) = .ok (.d (h x)) (st ++ [.lst (ac.map A.d)]))) :
    lcA pt t f st.length ok σ xs (st ++ [.lst (acc.map A.d)]) = .ok () (st ++ [.lst ((acc ++ (xs.filter p).map h).map A.d)]) := by
  induction xs generalizing acc with
  | nil => rw [lcA, need_pos (hok acc)]; simp
  | cons x xs ih =>
    obtain ⟨σ1, e1, e2, e3⟩ := ht x List.mem_cons_self acc
    rw [List.length_cons] at hl
    rw [lcA, need_pos (hok acc), e1]
    simp only [e2, noEx, bind_ok]
    cases hp : p x with
    | false =>
      simp only [Bool.false_eq_true, if_false]
      rw [ih acc (by omega) fun y hy => ht y (List.mem_cons_of_mem _ hy), List.filter_cons, hp]
      rfl
    | true =>
      simp only [if_true, e3 hp, noEx, bind_ok, get_last, List.length_map]
      rw [ifc_pos (by omega), set_last]
      have := ih (acc ++ [h x]) (by rw [List.length_append, List.length_singleton]; omega) fun y hy => ht y (List.mem_cons_of_mem _ hy)
      rw [List.map_append] at this
      rw [show (acc.map A.d ++ [A.d (h x)]) = acc.map A.d ++ [h x].map A.d from rfl, this, List.filter_cons, hp]
      simp
theorem trunc_app (st x : Store) : Trunc st (st ++ x) := ⟨by rw [List.length_append]; omega, fun i hi => .inl (by rw [List.getElem?_append_left hi])⟩
theorem trunc_refl (st : Store) : Trunc st st := ⟨Nat.le_refl _, fun i hi => .inl rfl⟩
theorem lcEnd_data (st : Store) (ds : List D) : lcEnd false st (st ++ [.lst (ds.map A.d)]) = .ok (.d (.list ds)) st := by
  unfold lcEnd
  rw [get_last]
  simp only [Bool.false_eq_true, if_false, allD_map]
  rw [need_pos (trunc_app st _), List.take_left']
  rfl
/-- [h x for x in xs if p x] -/
theorem mLc_map {it : MI} {vs : List Nat} {xs : List A} {st1 : Store} (p : A → Bool) (h : A → D) (hit : it σ st = .ok ⟨xs, ok⟩ st1) (hok : ∀ ds : List D, ok (st1 ++ [.lst (ds.map A.d)])) (hl : xs.length ≤ SZ)
    (ht : ∀ x ∈ xs, ∀ ac : List D, ∃ σ1, pt (wipeA σ vs) x = some σ1 ∧ t σ1 (st1 ++ [.lst (ac.map A.d)]) = .ok (p x) (st1 ++ [.lst (ac.map A.d)]) ∧ (p x = true → f σ1 (st1 ++ [.lst (ac.map A.d)]) = .ok (.d (h x)) (st1 ++ [.lst (ac.map A.d)]))) :
    mLc false vs pt it t f σ st = .ok (.d (.list ((xs.filter p).map h))) st1 := by
  unfold mLc
  rw [hit, bind_ok]
  have := lcA_map (σ := wipeA σ vs) (pt := pt) (t := t) (f := f) (ok := ok) (st := st1) p h [] hok (by simpa using hl) ht
  rw [show ([] : List D).map A.d = [] from rfl] at this
  rw [this, bind_ok, List.nil_append, lcEnd_data]
/-- .. without a test -/
theorem mLc_all {it : MI} {vs : List Nat} {xs : List A} {st1 : Store} (h : A → D) (hit : it σ st = .ok ⟨xs, ok⟩ st1) (hok : ∀ ds : List D, ok (st1 ++ [.lst (ds.map A.d)])) (hl : xs.length ≤ SZ)
    (ht : ∀ x ∈ xs, ∀ ac : List D, ∃ σ1, pt (wipeA σ vs) x = some σ1 ∧ f σ1 (st1 ++ [.lst (ac.map A.d)]) = .ok (.d (h x)) (st1 ++ [.lst (ac.map A.d)])) :
    mLc false vs pt it mYes f σ st = .ok (.d (.list (xs.map h))) st1 := by
  rw [mLc_map (fun _ => true) h hit hok hl fun x hx s => ?_, List.filter_eq_self.mpr fun _ _ => rfl]
  obtain ⟨σ1, e1, e2⟩ := ht x hx s
  exact ⟨σ1, e1, rfl, fun _ => e2⟩
/-- [h i for i in range(..)] -/
theorem mLc_range {it : MI} {j : Nat} {lo s : Int} {n : Nat} {st1 : Store} (h : Nat → D) (hit : it σ st = .ok ⟨rangeA lo n s, fun _ => True⟩ st1) (hl : n ≤ SZ)
    (ht : ∀ i < n, ∀ ac : List D, f ((wipeA σ [j]).set j (some (.d (.int (lo + (i : Nat) * s))))) (st1 ++ [.lst (ac.map A.d)]) = .ok (.d (h i)) (st1 ++ [.lst (ac.map A.d)])) :
    mLc false [j] (pt1 j) it mYes f σ st = .ok (.d (.list ((List.range n).map h))) st1 := by
  -- the element as a function of the item
  have hx : ∀ x ∈ rangeA lo n s, ∃ i < n, x = .d (.int (lo + (i : Nat) * s)) := fun x hx => by
    obtain ⟨i, hi⟩ := List.getElem?_of_mem hx
    obtain ⟨h1, h2⟩ := rangeA_get hi
    exact ⟨i, h1, h2⟩
  let hh : A → D := fun x => match f ((wipeA σ [j]).set j (some x)) (st1 ++ [.lst (([] : List D).map A.d)]) with
    | .ok (.d y) _ => y
    | _ => .non
  have e1 : ∀ i < n, hh (.d (.int (lo + (i : Nat) * s))) = h i := fun i hi => by
    show (match f ((wipeA σ [j]).set j (some (.d (.int (lo + (i : Nat) * s))))) (st1 ++ [.lst (([] : List D).map A.d)]) with | .ok (.d y) _ => y | _ => D.non) = h i
    rw [ht i hi]
  rw [mLc_all hh hit (fun _ => trivial) (by rw [rangeA_length]; exact hl) fun x hx' st => ?_]
  · congr 3
    unfold rangeA
    rw [List.map_map]
    apply List.map_congr_left
    intro i hi
    exact e1 i (List.mem_range.mp hi)
  · obtain ⟨i, hi, rfl⟩ := hx x hx'
    exact ⟨_, rfl, by rw [ht i hi, e1 i hi]⟩
end
end Am
namespace Am
open PySem PySem.Spec PyProof.Rows L2
/-! ### single steps -/
section
variable {σ : Slots} {st : Store} {x y : A}
theorem mkL_c {xs : List A} (h : xs.length ≤ SZ) : mkL true xs st = .ok (.c st.length) (st ++ [.lst xs]) := by unfold mkL; rw [ifc_pos h]; rfl
theorem mkL_d {xs : List A} {ds : List D} (hd : allD xs = some ds) (h : xs.length ≤ SZ) : mkL false xs st = .ok (.d (.list ds)) st := by unfold mkL; rw [ifc_pos h, hd]; rfl
theorem mkT_d {xs : List A} {ds : List D} (hd : allD xs = some ds) (h : xs.length ≤ SZ) : mkT xs st = .ok (.d (.tup ds)) st := by unfold mkT; rw [ifc_pos h, hd]
theorem mkL_e {xs : List A} (h : xs.length ≤ SZ) : mkL false xs st = match allD xs with | some ds => .ok (.d (.list ds)) st | none => .no := by unfold mkL; rw [ifc_pos h] <;> rfl
theorem mkT_e {xs : List A} (h : xs.length ≤ SZ) : mkT xs st = match allD xs with | some ds => .ok (.d (.tup ds)) st | none => .no := by unfold mkT; rw [ifc_pos h] <;> rfl
theorem allD_append : ∀ (xs ys : List A), allD (xs ++ ys) = (allD xs).bind fun a => (allD ys).map (a ++ ·)
  | [], ys => by rw [List.nil_append, allD, Option.bind_some]; cases allD ys <;> rfl
  | .d x :: xs, ys => by
    rw [List.cons_append, allD, allD, allD_append xs ys]
    cases allD xs with
    | none => rfl
    | some a => cases allD ys <;> rfl
  | .c _ :: _, _ => rfl
theorem allD_app {xs ys : List A} {ds es : List D} (h : allD xs = some ds) (h' : allD ys = some es) : allD (xs ++ ys) = some (ds ++ es) := by
  rw [allD_eq h, allD_eq h', ← List.map_append, allD_map]
theorem rng_ok {j : Int} (h : -(2 ^ 62) ≤ j ∧ j < 2 ^ 62) (σ : Slots) (fs : MA) (hf : fs σ st = .ok [.d (.int j)] st) : iRng1M fs σ st = .ok ⟨rangeA 0 j.toNat 1, fun _ => True⟩ st := by
  unfold iRng1M; rw [hf]; exact ifc_pos h
theorem loc_get (st : Store) (k : Nat) (L : Store) : (st ++ L)[st.length + k]? = L[k]? := by rw [List.getElem?_append_right (Nat.le_add_right _ _), Nat.add_sub_cancel_left]
theorem loc_get0 (st : Store) (L : Store) : (st ++ L)[st.length]? = L[0]? := by have := loc_get st 0 L; rwa [Nat.add_zero] at this
theorem loc_set (st : Store) (k : Nat) (L : Store) (x : Cell) : (st ++ L).set (st.length + k) x = st ++ L.set k x := by rw [List.set_append_right _ _ (Nat.le_add_right _ _), Nat.add_sub_cancel_left]
theorem loc_set0 (st : Store) (L : Store) (x : Cell) : (st ++ L).set st.length x = st ++ L.set 0 x := by have := loc_set st 0 L x; rwa [Nat.add_zero] at this
theorem loc_push (st : Store) (L : Store) (x : Cell) : st ++ L ++ [x] = st ++ (L ++ [x]) := List.append_assoc _ _ _
theorem base_get {st : Store} {k : Nat} {x : Cell} (h : st[k]? = some x) (L : Store) : (st ++ L)[k]? = some x := by rw [List.getElem?_append_left (RelS.lt h)]; exact h
theorem base_set {st : Store} {k : Nat} {x : Cell} (h : st[k]? = some x) (L : Store) (y : Cell) : (st ++ L).set k y = st.set k y ++ L := List.set_append_left _ _ (RelS.lt h)
theorem need_exit {a : A} {st L : Store} (h : ABelow st.length a) : need (Trunc st (st ++ L) ∧ ABelow st.length a) (Res.ok a ((st ++ L).take st.length)) = .ok a st := by
  rw [need_pos ⟨trunc_app _ _, h⟩, List.take_left']; rfl
theorem exitR_0 (st : Store) (a : A) (st1 : Store) : exitR 0 st a st1 = .ok a st1 := rfl
theorem exitR_2 (st : Store) (a : A) (st1 : Store) : exitR 2 st a st1 = (frz a st1).bind fun b st2 => need (Trunc st st2 ∧ ABelow st.length b) (.ok b (st2.take st.length)) := rfl
theorem exitR_3 (st : Store) (i : Nat) (st1 : Store) : exitR 3 st (.c i) st1 = (match st1[i]? with | some x => need (st.length ≤ i ∧ Trunc st st1 ∧ CBelow st.length x) (.ok (.c st.length) (st1.take st.length ++ [x])) | none => .no) := rfl
theorem exit2_d (x : D) (st L : Store) : exitR 2 st (.d x) (st ++ L) = .ok (.d x) st := by
  rw [exitR_2]
  exact need_exit (a := .d x) trivial
theorem exit2_d0 (x : D) (st : Store) : exitR 2 st (.d x) st = .ok (.d x) st := by
  have := exit2_d x st []
  rwa [List.append_nil] at this
/-- a local list, handed back -/
theorem exit2_l {L : Store} {k : Nat} {ds : List D} {xs : List A} (st : Store) (h : L[k]? = some (.lst xs)) (hd : allD xs = some ds) : exitR 2 st (.c (st.length + k)) (st ++ L) = .ok (.d (.list ds)) st := by
  have e : frz (.c (st.length + k)) (st ++ L) = .ok (.d (.list ds)) (st ++ L.set k (.fz (.list ds))) := by
    unfold frz
    simp only [loc_get, h, cellD, hd, Option.map_some, loc_set]
  rw [exitR_2, e]
  exact need_exit (a := .d _) trivial
theorem exit2_l0 {L : Store} {ds : List D} {xs : List A} (st : Store) (h : L[0]? = some (.lst xs)) (hd : allD xs = some ds) : exitR 2 st (.c st.length) (st ++ L) = .ok (.d (.list ds)) st := exit2_l (k := 0) st h hd
/-- .. as a cell of the caller's -/
theorem exit3_l {L : Store} {k : Nat} {x : Cell} (st : Store) (h : L[k]? = some x) (hb : CBelow st.length x) : exitR 3 st (.c (st.length + k)) (st ++ L) = .ok (.c st.length) (st ++ [x]) := by
  rw [exitR_3, loc_get, h]
  show need _ _ = _
  rw [need_pos ⟨Nat.le_add_right _ _, trunc_app _ _, hb⟩, List.take_left']
  rfl
theorem exit3_l0 {L : Store} {x : Cell} (st : Store) (h : L[0]? = some x) (hb : CBelow st.length x) : exitR 3 st (.c st.length) (st ++ L) = .ok (.c st.length) (st ++ [x]) := exit3_l (k := 0) st h hb
theorem cmulR (i : Int) {j : Int} (h : -(2 ^ 64) < j ∧ j < 2 ^ 64) : CMulA i j := .inl (.inr h)
theorem cmulL {i : Int} (j : Int) (h : -(2 ^ 64) < i ∧ i < 2 ^ 64) : CMulA i j := .inl (.inl h)
theorem cdivA (i : Int) {j : Int} (h : 0 < j ∧ j < 1073741824) : CDivA i j := .inl h
/-! operations at their values -/
section
variable (st : Store) (k : Bool)
theorem gAdd_i (i j : Int) : gAdd k (.d (.int i)) (.d (.int j)) st = .ok (.d (.int (i + j))) st := rfl
theorem gAdd_l (a b : List D) : gAdd k (.d (.list a)) (.d (.list b)) st = mkL k ((a ++ b).map .d) st := by
  show mkL k (a.map A.d ++ b.map A.d) st = _
  rw [List.map_append]
theorem gAdd_t (a b : List D) : gAdd k (.d (.tup a)) (.d (.tup b)) st = mkT ((a ++ b).map .d) st := rfl
theorem gAdd_cl (i : Nat) (b : List D) : gAdd k (.c i) (.d (.list b)) st = match viewL st (.c i) with | some a => mkL k (a ++ b.map .d) st | none => .no := by
  show (match viewL st (.c i), viewL st (.d (.list b)) with | some a, some b => mkL k (a ++ b) st | _, _ => .no) = _
  cases viewL st (.c i) <;> rfl
theorem gAdd_lc (i : Nat) (a : List D) : gAdd k (.d (.list a)) (.c i) st = match viewL st (.c i) with | some b => mkL k (a.map .d ++ b) st | none => .no := by
  show (match viewL st (.d (.list a)), viewL st (.c i) with | some a, some b => mkL k (a ++ b) st | _, _ => .no) = _
  cases viewL st (.c i) <;> rfl
theorem gAdd_s (a b : Str) : gAdd k (.d (.str a)) (.d (.str b)) st = need (a.length + b.length ≤ SZ) (.ok (.d (.str (a ++ b))) st) := rfl
theorem gMul_i (i j : Int) : gMul k (.d (.int i)) (.d (.int j)) st = need (CMulA i j) (.ok (.d (.int (i * j))) st) := rfl
theorem gMul_l (a : List D) (j : Int) : gMul k (.d (.list a)) (.d (.int j)) st = need (j < 2 ^ 63 ∧ -(2 ^ 63) ≤ j ∧ (a.map A.d).length * j.toNat ≤ SZ) (mkL k (List.replicate j.toNat (a.map A.d)).flatten st) := rfl
theorem viewL_l (a : List D) : viewL st (.d (.list a)) = some (a.map .d) := rfl
theorem viewL_c (i : Nat) : viewL st (.c i) = match st[i]? with | some (.lst xs) => some xs | some (.fz (.list ds)) => some (ds.map .d) | _ => none := rfl
theorem viewS_l (a : List D) : viewS st (.d (.list a)) = some (a.map .d) := rfl
theorem viewS_s (a : List D) : viewS st (.d (.scr a)) = some (a.map .d) := rfl
theorem viewS_c (i : Nat) : viewS st (.c i) = match st[i]? with | some (.lst xs) => some xs | some (.fz (.list ds)) => some (ds.map .d) | _ => none := rfl
theorem viewS_t (a : List D) : viewS st (.d (.tup a)) = none := rfl
theorem viewS_kt (a : List D) : viewS st (.d (.kt a)) = none := rfl
theorem viewS_str (a : Str) : viewS st (.d (.str a)) = none := rfl
theorem viewT_t (a : List D) : viewT (.d (.tup a)) = some a := rfl
theorem viewT_kt (a : List D) : viewT (.d (.kt a)) = some a := rfl
theorem gLen_l (a : List D) : gLen [.d (.list a)] st = .ok (.d (.int (a.length : Nat))) st := by
  show Res.ok (A.d (.int ((a.map A.d).length : Nat))) st = _
  rw [List.length_map]
theorem gLen_s (a : List D) : gLen [.d (.scr a)] st = .ok (.d (.int (a.length : Nat))) st := by
  show Res.ok (A.d (.int ((a.map A.d).length : Nat))) st = _
  rw [List.length_map]
theorem gLen_t (a : List D) : gLen [.d (.tup a)] st = .ok (.d (.int (a.length : Nat))) st := rfl
theorem gLen_kt (a : List D) : gLen [.d (.kt a)] st = .ok (.d (.int (a.length : Nat))) st := rfl
theorem gListOf_l (a : List D) : gListOf k [.d (.list a)] st = mkL k (a.map .d) st := rfl
theorem gListOf_s (a : List D) : gListOf k [.d (.scr a)] st = mkL k (a.map .d) st := rfl
theorem gListOf_t (a : List D) : gListOf k [.d (.tup a)] st = mkL k (a.map .d) st := rfl
theorem gListOf_kt (a : List D) : gListOf k [.d (.kt a)] st = mkL k (a.map .d) st := rfl
theorem gListOf_c (i : Nat) : gListOf k [.c i] st = match viewS st (.c i) with | some xs => mkL k xs st | none => .no := by
  show (match viewS st (.c i) with | some xs => mkL k xs st | none => (match viewT (.c i) with | some ds => mkL k (ds.map .d) st | none => .no)) = _
  cases viewS st (.c i) <;> rfl
theorem gTupOf_l (a : List D) : gTupOf [.d (.list a)] st = mkT (a.map .d) st := rfl
theorem gTupOf_t (a : List D) : gTupOf [.d (.tup a)] st = .ok (.d (.tup a)) st := rfl
theorem gTupOf_c (i : Nat) : gTupOf [.c i] st = match viewS st (.c i) with | some xs => mkT xs st | none => .no := rfl
theorem gIx_l (a : List D) (i : Int) : gIx (.d (.list a)) (.d (.int i)) st = match atI (a.map A.d) i with | some x => .ok x st | none => .no := rfl
theorem gIx_s (a : List D) (i : Int) : gIx (.d (.scr a)) (.d (.int i)) st = match atI (a.map A.d) i with | some x => .ok x st | none => .no := rfl
theorem gIx_t (a : List D) (i : Int) : gIx (.d (.tup a)) (.d (.int i)) st = match atI a i with | some x => .ok (.d x) st | none => .no := rfl
theorem gIx_kt (a : List D) (i : Int) : gIx (.d (.kt a)) (.d (.int i)) st = match atI a i with | some x => .ok (.d x) st | none => .no := rfl
theorem gSl_l (a : List D) (l h : Option Int) : gSl k (.d (.list a)) l h st = mkL k ((cutA a l h).map .d) st := by
  show mkL k (cutA (a.map A.d) l h) st = _
  unfold cutA
  rw [List.length_map, ← List.map_drop, ← List.map_take]
theorem gSl_t (a : List D) (l h : Option Int) : gSl k (.d (.tup a)) l h st = mkT ((cutA a l h).map .d) st := rfl
theorem gRev_l (a : List D) : gRev k (.d (.list a)) st = mkL k (a.reverse.map .d) st := by
  show mkL k (a.map A.d).reverse st = _
  rw [List.map_reverse]
/-! .. of a cell, by what it holds -/
noncomputable def lenC : Option Cell → Store → Res A
  | some (.lst xs), st => .ok (.d (.int (xs.length : Nat))) st
  | some (.dK ds), st => .ok (.d (.int (ds.length : Nat))) st
  | some (.dT ds), st => .ok (.d (.int (ds.length : Nat))) st
  | some (.fz (.list ds)), st => .ok (.d (.int (ds.length : Nat))) st
  | some (.fz (.dK ds)), st => .ok (.d (.int (ds.length : Nat))) st
  | some (.fz (.dT ds)), st => .ok (.d (.int (ds.length : Nat))) st
  | _, _ => .no
theorem gLen_c (i : Nat) : gLen [.c i] st = lenC st[i]? st := by
  show (match viewS st (.c i) with | some xs => Res.ok (A.d (.int (xs.length : Nat))) st | none => (match st[i]? with | some (.dK ds) => .ok (.d (.int (ds.length : Nat))) st | some (.dT ds) => .ok (.d (.int (ds.length : Nat))) st | some (.fz (.dK ds)) => .ok (.d (.int (ds.length : Nat))) st | some (.fz (.dT ds)) => .ok (.d (.int (ds.length : Nat))) st | _ => .no)) = _
  rw [viewS_c]
  cases st[i]? with
  | none => rfl
  | some x =>
    cases x with
    | fz d => cases d <;> first | rfl | (show Res.ok (A.d (.int ((List.map A.d _).length : Nat))) st = _; rw [List.length_map]; rfl)
    | _ => rfl
noncomputable def ixC : Option Cell → A → Store → Res A
  | some (.lst xs), .d (.int j), st => match atI xs j with | some x => .ok x st | none => .no
  | some (.dK kvs), y, st => match keyA y with
    | some k => match lookK kvs k with | some a => .ok a st | none => .no
    | none => .no
  | some (.dT kvs), y, st => match keysT y with
    | some k => match lookK kvs k with | some a => .ok a st | none => .no
    | none => .no
  | some (.fz (.list ds)), .d (.int j), st => match atI (ds.map A.d) j with | some x => .ok x st | none => .no
  | some (.fz (.dK kvs)), y, st => match keyA y with
    | some k => match lookK (kvs.map fun p => (p.1, A.d p.2)) k with | some a => .ok a st | none => .no
    | none => .no
  | some (.fz (.dT kvs)), y, st => match keysT y with
    | some k => match lookK (kvs.map fun p => (p.1, A.d p.2)) k with | some a => .ok a st | none => .no
    | none => .no
  | _, _, _ => .no
theorem gIx_c (i : Nat) (y : A) : gIx (.c i) y st = ixC st[i]? y st := by
  unfold gIx
  simp only [viewS_c, viewT, viewK, viewDT]
  cases st[i]? with
  | none => rfl
  | some x =>
    cases x with
    | lst xs => cases y with
      | c _ => rfl
      | d y => cases y <;> rfl
    | fz d => cases d <;> first | rfl | (cases y with
      | c _ => rfl
      | d y => cases y <;> rfl)
    | _ => rfl
theorem gSl_c (i : Nat) (l h : Option Int) : gSl k (.c i) l h st = match viewS st (.c i) with | some xs => mkL k (cutA xs l h) st | none => .no := by
  unfold gSl
  show (match viewS st (.c i) with | some xs => mkL k (cutA xs l h) st | none => _) = _
  cases viewS st (.c i) <;> rfl
theorem gRev_c (i : Nat) : gRev k (.c i) st = match viewS st (.c i) with | some xs => mkL k xs.reverse st | none => .no := rfl
theorem gAppend_c {i : Nat} {xs : List A} (h : st[i]? = some (.lst xs)) (y : A) (hl : xs.length < SZ) : gAppend (.c i) [y] st = .ok (.d .non) (st.set i (.lst (xs ++ [y]))) := by
  unfold gAppend
  simp only [h]
  exact ifc_pos hl
theorem gExtend_c {i : Nat} {xs ys : List A} {y : A} (h : st[i]? = some (.lst xs)) (hy : viewL st y = some ys) (hl : xs.length + ys.length ≤ SZ) : gExtend (.c i) [y] st = .ok (.d .non) (st.set i (.lst (xs ++ ys))) := by
  unfold gExtend
  simp only [h, hy]
  exact ifc_pos hl
theorem gIs_n (neg : Bool) : gIs neg (.d .non) (.d .non) st = .ok (.d (.bl (!neg))) st := rfl
theorem gIs_d {x : D} (neg : Bool) (h : x ≠ .non) : gIs neg (.d x) (.d .non) st = .ok (.d (.bl neg)) st := by
  cases x <;> first | rfl | exact absurd rfl h
theorem gIs_c (neg : Bool) (i : Nat) : gIs neg (.c i) (.d .non) st = .ok (.d (.bl neg)) st := rfl
theorem gIs_b (neg a b : Bool) : gIs neg (.d (.bl a)) (.d (.bl b)) st = .ok (.d (.bl (if neg then !decide (a = b) else decide (a = b)))) st := rfl
theorem need_d {α : Type} {p : Prop} {r : Res α} (h : p) : need p r = r := need_pos h
theorem frz_d (x : D) : frz (.d x) st = .ok (.d x) st := rfl
theorem frz_c {i : Nat} {xs : List A} (h : st[i]? = some (.lst xs)) {ds : List D} (hd : allD xs = some ds) : frz (.c i) st = .ok (.d (.list ds)) (st.set i (.fz (.list ds))) := by
  unfold frz
  simp only [h, cellD, hd, Option.map_some]
end
/-- what a turn comes to -/
def Nxt (P : Slots → Store → Prop) : Out → Prop
  | .nx σ st => P σ st
  | .ct σ st => P σ st
  | _ => False
def turn (g : MG) (b : MS) (x : A) (σ : Slots) (st : Store) : Out := match g x σ st with
  | some (σ1, st1) => b σ1 st1
  | none => .no
theorem nxt_nx (P : Slots → Store → Prop) (σ : Slots) (st : Store) : Nxt P (.nx σ st) = P σ st := rfl
theorem nxt_ct (P : Slots → Store → Prop) (σ : Slots) (st : Store) : Nxt P (.ct σ st) = P σ st := rfl
theorem turn_ex {g : MG} {b : MS} {x : A} {P : Slots → Store → Prop} (h : Nxt P (turn g b x σ st)) : ∃ σ1 st1 σ2 st2, g x σ st = some (σ1, st1) ∧ (b σ1 st1 = .nx σ2 st2 ∨ b σ1 st1 = .ct σ2 st2) ∧ P σ2 st2 := by
  unfold turn at h
  split at h
  · rename_i σ1 st1 e
    cases hb : b σ1 st1 with
    | nx σ2 st2 => rw [hb] at h; exact ⟨σ1, st1, σ2, st2, e, .inl hb, h⟩
    | ct σ2 st2 => rw [hb] at h; exact ⟨σ1, st1, σ2, st2, e, .inr hb, h⟩
    | _ => rw [hb] at h; exact h.elim
  · exact h.elim
theorem forL_nx {g : MG} {b : MS} {ok : Store → Prop} {xs : List A} {o : Out} (ho : forA g b ok xs σ st = o) (I : Nat → Slots → Store → Prop) (h0 : I 0 σ st) (hok : ∀ i σ st, i ≤ xs.length → I i σ st → ok st)
    (hs : ∀ i x σ st, xs[i]? = some x → I i σ st → Nxt (I (i + 1)) (turn g b x σ st)) : ∃ σ' st', o = .nx σ' st' ∧ I xs.length σ' st' := by
  obtain ⟨σ', st', e, h⟩ := forA_inv (g := g) (b := b) (ok := ok) (xs := xs) I h0 hok fun i x σ st hx h => turn_ex (hs i x σ st hx h)
  exact ⟨σ', st', ho.symm.trans e, h⟩
theorem forR_nx {g : MG} {b : MS} {ok : Store → Prop} {lo : Int} {n : Nat} {o : Out} (ho : forA g b ok (rangeA lo n 1) σ st = o) (I : Nat → Slots → Store → Prop) (h0 : I 0 σ st) (hok : ∀ i σ st, i ≤ n → I i σ st → ok st)
    (hs : ∀ i σ st, i < n → I i σ st → Nxt (I (i + 1)) (turn g b (.d (.int (lo + (i : Nat)))) σ st)) : ∃ σ' st', o = .nx σ' st' ∧ I n σ' st' := by
  obtain ⟨σ', st', e, h⟩ := forR_inv (g := g) (b := b) (ok := ok) (lo := lo) (n := n) I h0 hok fun i σ st hx h => turn_ex (hs i σ st hx h)
  exact ⟨σ', st', ho.symm.trans e, h⟩
end
end Am
/-! ### Am: equality of plain data -/
namespace Am
open PySem PySem.Spec PyProof.Rows L2
/-- none, whole numbers, texts, lists and tuples of such, at most n deep -/
def Pl : Nat → D → Prop
  | _, .non => True
  | _, .int _ => True
  | _, .str x => PyData.canLay0 (.str x) = true
  | n + 1, .list ds => ∀ d ∈ ds, Pl n d
  | n + 1, .tup ds => ∀ d ∈ ds, Pl n d
  | _, _ => False
theorem Pl.non (n : Nat) : Pl n .non := by cases n <;> trivial
theorem Pl.int (n : Nat) (i : Int) : Pl n (.int i) := by cases n <;> trivial
theorem Pl.str (n : Nat) {x : Str} (h : PyData.canLay0 (.str x) = true) : Pl n (.str x) := by cases n <;> exact h
theorem pls_py {n : Nat} (ih : ∀ x, Pl n x → ∃ p, D.py x = some p ∧ PyData.canLay0 p = true ∧ p.depth ≤ n) : ∀ ds : List D, (∀ d ∈ ds, Pl n d) → ∃ ps, D.pys ds = some ps ∧ PyData.canLayAll0 ps = true ∧ PyData.depthAll ps ≤ n
  | [], _ => ⟨[], rfl, rfl, Nat.zero_le _⟩
  | d :: ds, h => by
    obtain ⟨p, e1, c1, l1⟩ := ih d (h d List.mem_cons_self)
    obtain ⟨ps, e2, c2, l2⟩ := pls_py ih ds fun x hx => h x (List.mem_cons_of_mem _ hx)
    refine ⟨p :: ps, by rw [D.pys, e1, e2], by rw [PyData.canLayAll0, c1, c2]; rfl, by rw [PyData.depthAll]; omega⟩
theorem pl_py : ∀ (n : Nat) (x : D), Pl n x → ∃ p, D.py x = some p ∧ PyData.canLay0 p = true ∧ p.depth ≤ n
  | 0, x, h => by
    cases x with
    | non => exact ⟨_, by rw [D.py], rfl, Nat.le_refl _⟩
    | int i => exact ⟨_, by rw [D.py], rfl, Nat.le_refl _⟩
    | str s => exact ⟨_, by rw [D.py], h, Nat.le_refl _⟩
    | _ => exact absurd h (by unfold Pl; exact id)
  | n + 1, x, h => by
    cases x with
    | non => exact ⟨_, by rw [D.py], rfl, Nat.zero_le _⟩
    | int i => exact ⟨_, by rw [D.py], rfl, Nat.zero_le _⟩
    | str s => exact ⟨_, by rw [D.py], h, Nat.zero_le _⟩
    | list ds =>
      obtain ⟨ps, e, c, l⟩ := pls_py (pl_py n) ds h
      exact ⟨.list ps, by rw [D.py, e]; rfl, c, by rw [PyData.depth]; omega⟩
    | tup ds =>
      obtain ⟨ps, e, c, l⟩ := pls_py (pl_py n) ds h
      exact ⟨.tuple ps, by rw [D.py, e]; rfl, c, by rw [PyData.depth]; omega⟩
    | _ => exact absurd h (by unfold Pl; exact id)
theorem pys_cons {y : D} {ys : List D} {qs : List PyData} (h : D.pys (y :: ys) = some qs) : ∃ q qs', qs = q :: qs' ∧ D.py y = some q ∧ D.pys ys = some qs' := by
  rw [D.pys.eq_def] at h
  simp only at h
  split at h
  · rename_i a b
    cases h
    exact ⟨_, _, rfl, a, b⟩
  · cases h
theorem pls_eq {n : Nat} (ih : ∀ x y p q, Pl n x → Pl n y → D.py x = some p → D.py y = some q → (PyData.eqv p q = true ↔ x = y)) : ∀ (xs ys : List D) (ps qs : List PyData), (∀ d ∈ xs, Pl n d) → (∀ d ∈ ys, Pl n d) → D.pys xs = some ps → D.pys ys = some qs → (PyData.eqvAll ps qs = true ↔ xs = ys)
  | [], [], ps, qs, _, _, e1, e2 => by
    cases e1; cases e2
    exact ⟨fun _ => rfl, fun _ => rfl⟩
  | [], y :: ys, ps, qs, _, _, e1, e2 => by
    cases e1
    obtain ⟨q, qs', rfl, _, _⟩ := pys_cons e2
    exact ⟨fun h => (by cases h), fun h => (by cases h)⟩
  | x :: xs, [], ps, qs, _, _, e1, e2 => by
    cases e2
    obtain ⟨q, qs', rfl, _, _⟩ := pys_cons e1
    exact ⟨fun h => (by cases h), fun h => (by cases h)⟩
  | x :: xs, y :: ys, ps, qs, h1, h2, e1, e2 => by
    obtain ⟨p, ps', rfl, a1, a2⟩ := pys_cons e1
    obtain ⟨q, qs', rfl, b1, b2⟩ := pys_cons e2
    have i1 := ih x y p q (h1 x List.mem_cons_self) (h2 y List.mem_cons_self) a1 b1
    have i2 := pls_eq ih xs ys ps' qs' (fun d hd => h1 d (List.mem_cons_of_mem _ hd)) (fun d hd => h2 d (List.mem_cons_of_mem _ hd)) a2 b2
    rw [PyData.eqvAll, Bool.and_eq_true, i1, i2, List.cons.injEq]
theorem pl_eq : ∀ (n : Nat) (x y : D) (p q : PyData), Pl n x → Pl n y → D.py x = some p → D.py y = some q → (PyData.eqv p q = true ↔ x = y) := by
  intro n
  induction n with
  | zero =>
    intro x y p q hx hy e1 e2
    cases x with
    | non => rw [D.py] at e1; cases e1; cases y with
      | non => rw [D.py] at e2; cases e2; exact ⟨fun _ => rfl, fun _ => rfl⟩
      | int _ => rw [D.py] at e2; cases e2; exact ⟨fun h => (by cases h), fun h => (by cases h)⟩
      | str _ => rw [D.py] at e2; cases e2; exact ⟨fun h => (by cases h), fun h => (by cases h)⟩
      | _ => exact absurd hy (by unfold Pl; exact id)
    | int i => rw [D.py] at e1; cases e1; cases y with
      | non => rw [D.py] at e2; cases e2; exact ⟨fun h => (by cases h), fun h => (by cases h)⟩
      | int j => rw [D.py] at e2; cases e2; exact ⟨fun h => by rw [eq_of_beq (show (i == j) = true from h)], fun h => by cases h; exact beq_self_eq_true i⟩
      | str _ => rw [D.py] at e2; cases e2; exact ⟨fun h => (by cases h), fun h => (by cases h)⟩
      | _ => exact absurd hy (by unfold Pl; exact id)
    | str i => rw [D.py] at e1; cases e1; cases y with
      | non => rw [D.py] at e2; cases e2; exact ⟨fun h => (by cases h), fun h => (by cases h)⟩
      | str j => rw [D.py] at e2; cases e2; exact ⟨fun h => by rw [eq_of_beq (show (i == j) = true from h)], fun h => by cases h; exact beq_self_eq_true i⟩
      | int _ => rw [D.py] at e2; cases e2; exact ⟨fun h => (by cases h), fun h => (by cases h)⟩
      | _ => exact absurd hy (by unfold Pl; exact id)
    | _ => exact absurd hx (by unfold Pl; exact id)
  | succ n ih =>
    intro x y p q hx hy e1 e2
    cases x with
    | non => rw [D.py] at e1; cases e1; cases y with
      | non => rw [D.py] at e2; cases e2; exact ⟨fun _ => rfl, fun _ => rfl⟩
      | int _ => rw [D.py] at e2; cases e2; exact ⟨fun h => (by cases h), fun h => (by cases h)⟩
      | str _ => rw [D.py] at e2; cases e2; exact ⟨fun h => (by cases h), fun h => (by cases h)⟩
      | list ds => rw [D.py] at e2; obtain ⟨ps, _, rfl⟩ := Option.map_eq_some_iff.mp e2; exact ⟨fun h => (by cases h), fun h => (by cases h)⟩
      | tup ds => rw [D.py] at e2; obtain ⟨ps, _, rfl⟩ := Option.map_eq_some_iff.mp e2; exact ⟨fun h => (by cases h), fun h => (by cases h)⟩
      | _ => exact absurd hy (by unfold Pl; exact id)
    | int i => rw [D.py] at e1; cases e1; cases y with
      | non => rw [D.py] at e2; cases e2; exact ⟨fun h => (by cases h), fun h => (by cases h)⟩
      | int j => rw [D.py] at e2; cases e2; exact ⟨fun h => by rw [eq_of_beq (show (i == j) = true from h)], fun h => by cases h; exact beq_self_eq_true i⟩
      | str _ => rw [D.py] at e2; cases e2; exact ⟨fun h => (by cases h), fun h => (by cases h)⟩
      | list ds => rw [D.py] at e2; obtain ⟨ps, _, rfl⟩ := Option.map_eq_some_iff.mp e2; exact ⟨fun h => (by cases h), fun h => (by cases h)⟩
      | tup ds => rw [D.py] at e2; obtain ⟨ps, _, rfl⟩ := Option.map_eq_some_iff.mp e2; exact ⟨fun h => (by cases h), fun h => (by cases h)⟩
      | _ => exact absurd hy (by unfold Pl; exact id)
    | str i => rw [D.py] at e1; cases e1; cases y with
      | non => rw [D.py] at e2; cases e2; exact ⟨fun h => (by cases h), fun h => (by cases h)⟩
      | str j => rw [D.py] at e2; cases e2; exact ⟨fun h => by rw [eq_of_beq (show (i == j) = true from h)], fun h => by cases h; exact beq_self_eq_true i⟩
      | int _ => rw [D.py] at e2; cases e2; exact ⟨fun h => (by cases h), fun h => (by cases h)⟩
      | list ds => rw [D.py] at e2; obtain ⟨ps, _, rfl⟩ := Option.map_eq_some_iff.mp e2; exact ⟨fun h => (by cases h), fun h => (by cases h)⟩
      | tup ds => rw [D.py] at e2; obtain ⟨ps, _, rfl⟩ := Option.map_eq_some_iff.mp e2; exact ⟨fun h => (by cases h), fun h => (by cases h)⟩
      | _ => exact absurd hy (by unfold Pl; exact id)
    | list xs =>
      rw [D.py] at e1; obtain ⟨ps, a, rfl⟩ := Option.map_eq_some_iff.mp e1
      cases y with
      | non => rw [D.py] at e2; cases e2; exact ⟨fun h => (by cases h), fun h => (by cases h)⟩
      | int _ => rw [D.py] at e2; cases e2; exact ⟨fun h => (by cases h), fun h => (by cases h)⟩
      | str _ => rw [D.py] at e2; cases e2; exact ⟨fun h => (by cases h), fun h => (by cases h)⟩
      | tup ds => rw [D.py] at e2; obtain ⟨ps, _, rfl⟩ := Option.map_eq_some_iff.mp e2; exact ⟨fun h => (by cases h), fun h => (by cases h)⟩
      | list ys =>
        rw [D.py] at e2; obtain ⟨qs, b, rfl⟩ := Option.map_eq_some_iff.mp e2
        rw [D.list.injEq]
        exact pls_eq ih xs ys ps qs hx hy a b
      | _ => exact absurd hy (by unfold Pl; exact id)
    | tup xs =>
      rw [D.py] at e1; obtain ⟨ps, a, rfl⟩ := Option.map_eq_some_iff.mp e1
      cases y with
      | non => rw [D.py] at e2; cases e2; exact ⟨fun h => (by cases h), fun h => (by cases h)⟩
      | int _ => rw [D.py] at e2; cases e2; exact ⟨fun h => (by cases h), fun h => (by cases h)⟩
      | str _ => rw [D.py] at e2; cases e2; exact ⟨fun h => (by cases h), fun h => (by cases h)⟩
      | list ds => rw [D.py] at e2; obtain ⟨ps, _, rfl⟩ := Option.map_eq_some_iff.mp e2; exact ⟨fun h => (by cases h), fun h => (by cases h)⟩
      | tup ys =>
        rw [D.py] at e2; obtain ⟨qs, b, rfl⟩ := Option.map_eq_some_iff.mp e2
        rw [D.tup.injEq]
        exact pls_eq ih xs ys ps qs hx hy a b
      | _ => exact absurd hy (by unfold Pl; exact id)
    | _ => exact absurd hx (by unfold Pl; exact id)
section
variable {n : Nat} {x y : D} (st : Store)
theorem gEq_pl (hn : n ≤ 64) (hx : Pl n x) (hy : Pl n y) (neg : Bool) : ∃ b : Bool, (b = true ↔ x = y) ∧ gEq neg (.d x) (.d y) st = .ok (.d (.bl (if neg then !b else b))) st := by
  obtain ⟨p, e1, c1, l1⟩ := pl_py n x hx
  obtain ⟨q, e2, c2, l2⟩ := pl_py n y hy
  refine ⟨PyData.eqv p q, pl_eq n x y p q hx hy e1 e2, ?_⟩
  unfold gEq
  rw [show peek st (.d x) = some x from rfl, show peek st (.d y) = some y from rfl, Option.bind_some, Option.bind_some, e1, e2]
  refine need_pos ⟨?_, ?_⟩
  · unfold SeqAt.shaped
    rw [c1, decide_eq_true (Nat.le_trans l1 hn)]; rfl
  · unfold SeqAt.shaped
    rw [c2, decide_eq_true (Nat.le_trans l2 hn)]; rfl
theorem gEq_same (hx : Pl n x) (neg : Bool) (e : x = y) (hn : n ≤ 64 := by decide) : gEq neg (.d x) (.d y) st = .ok (.d (.bl (!neg))) st := by
  subst e
  obtain ⟨b, hb, e⟩ := gEq_pl st hn hx hx neg
  rw [e, hb.mpr rfl]
  cases neg <;> rfl
theorem gEq_diff (hx : Pl n x) (hy : Pl n y) (neg : Bool) (e : x ≠ y) (hn : n ≤ 64 := by decide) : gEq neg (.d x) (.d y) st = .ok (.d (.bl neg)) st := by
  obtain ⟨b, hb, e1⟩ := gEq_pl st hn hx hy neg
  rw [e1, Bool.eq_false_iff.mpr fun h => e (hb.mp h)]
  cases neg <;> rfl
theorem gEq_if (i j : Int) : gEq false (.d (.int i)) (.d (.int j)) st = .ok (.d (.bl (decide (i = j)))) st := by
  by_cases h : i = j
  · rw [gEq_same st (Pl.int 0 i) false (by rw [h]), decide_eq_true h]; rfl
  · rw [gEq_diff st (Pl.int 0 i) (Pl.int 0 j) false (fun z => h (D.int.inj z)), decide_eq_false h]
theorem gEq_it (i j : Int) : gEq true (.d (.int i)) (.d (.int j)) st = .ok (.d (.bl (decide (i ≠ j)))) st := by
  by_cases h : i = j
  · rw [gEq_same st (Pl.int 0 i) true (by rw [h]), decide_eq_false (fun z => z h)]; rfl
  · rw [gEq_diff st (Pl.int 0 i) (Pl.int 0 j) true (fun z => h (D.int.inj z)), decide_eq_true h]
theorem gEq_cd (neg : Bool) {i : Nat} {xs : List A} {ds : List D} (h : st[i]? = some (.lst xs)) (hd : allD xs = some ds) (y : D) : gEq neg (.c i) (.d y) st = gEq neg (.d (.list ds)) (.d y) st := by
  unfold gEq
  rw [show peek st (.c i) = some (.list ds) by unfold peek; simp only [h, hd, Option.map_some]]
  rfl
theorem gEq_dc (neg : Bool) {i : Nat} {xs : List A} {ds : List D} (h : st[i]? = some (.lst xs)) (hd : allD xs = some ds) (y : D) : gEq neg (.d y) (.c i) st = gEq neg (.d y) (.d (.list ds)) st := by
  unfold gEq
  rw [show peek st (.c i) = some (.list ds) by unfold peek; simp only [h, hd, Option.map_some]]
  rfl
theorem gIs_l (neg : Bool) (a : List D) : gIs neg (.d (.list a)) (.d .non) st = .ok (.d (.bl neg)) st := rfl
theorem gIs_t (neg : Bool) (a : List D) : gIs neg (.d (.tup a)) (.d .non) st = .ok (.d (.bl neg)) st := rfl
theorem gIs_i (neg : Bool) (a : Int) : gIs neg (.d (.int a)) (.d .non) st = .ok (.d (.bl neg)) st := rfl
theorem gIs_s (neg : Bool) (a : Str) : gIs neg (.d (.str a)) (.d .non) st = .ok (.d (.bl neg)) st := rfl
theorem gIs_kt (neg : Bool) (a : List D) : gIs neg (.d (.kt a)) (.d .non) st = .ok (.d (.bl neg)) st := rfl
end
section
variable {α : Type}
theorem atI_0 (x0 : α) (xs : List α) : atI (x0 :: xs) 0 = some x0 := atI_nat (j := 0) (by rfl)
theorem atI_1 (x0 x1 : α) (xs : List α) : atI (x0 :: x1 :: xs) 1 = some x1 := atI_nat (j := 1) (by rfl)
theorem atI_2 (x0 x1 x2 : α) (xs : List α) : atI (x0 :: x1 :: x2 :: xs) 2 = some x2 := atI_nat (j := 2) (by rfl)
theorem atI_3 (x0 x1 x2 x3 : α) (xs : List α) : atI (x0 :: x1 :: x2 :: x3 :: xs) 3 = some x3 := atI_nat (j := 3) (by rfl)
theorem atI_4 (x0 x1 x2 x3 x4 : α) (xs : List α) : atI (x0 :: x1 :: x2 :: x3 :: x4 :: xs) 4 = some x4 := atI_nat (j := 4) (by rfl)
theorem atI_5 (x0 x1 x2 x3 x4 x5 : α) (xs : List α) : atI (x0 :: x1 :: x2 :: x3 :: x4 :: x5 :: xs) 5 = some x5 := atI_nat (j := 5) (by rfl)
end
/-! stores into a place; turns that make cells -/
def asg2 : Option (Slots × Store) → Out
  | some (σ2, st2) => .nx σ2 st2
  | none => .no
def asgO (r : Res A) (g : MG) (σ : Slots) : Out := lift r σ fun a st1 => asg2 (g a σ st1)
theorem mAsg_ap (f : ME) (g : MG) (σ : Slots) (st : Store) : mAsg f g σ st = asgO (f σ st) g σ := by
  unfold mAsg asgO
  congr 1
theorem asgO_ok (a : A) (g : MG) (σ : Slots) (st : Store) : asgO (.ok a st) g σ = asg2 (g a σ st) := rfl
theorem asg2_some (σ : Slots) (st : Store) : asg2 (some (σ, st)) = .nx σ st := rfl
noncomputable def sub3 (o i a : A) (σ : Slots) (st : Store) : Option (Slots × Store) := match gSet o i a st with
  | some st3 => some (σ, st3)
  | none => none
noncomputable def sub2 (r : Res A) (o a : A) (σ : Slots) : Option (Slots × Store) := match r with
  | .ok i st2 => sub3 o i a σ st2
  | _ => none
noncomputable def subR (r : Res A) (fi : ME) (a : A) (σ : Slots) : Option (Slots × Store) := match r with
  | .ok o st1 => sub2 (fi σ st1) o a σ
  | _ => none
theorem kSub_ap (fo fi : ME) (a : A) (σ : Slots) (st : Store) : kSub fo fi a σ st = subR (fo σ st) fi a σ := by
  unfold kSub subR
  cases fo σ st with
  | ok o st1 =>
    show (match fi σ st1 with
      | .ok i st2 => match gSet o i a st2 with
        | some st3 => some (σ, st3)
        | none => none
      | _ => none) = sub2 (fi σ st1) o a σ
    cases fi σ st1 with
    | ok i st2 =>
      show _ = sub3 o i a σ st2
      unfold sub3
      show (match gSet o i a st2 with
        | some st3 => some (σ, st3)
        | none => none) = _
      cases gSet o i a st2 <;> rfl
    | _ => rfl
  | _ => rfl
theorem subR_ok (o : A) (st : Store) (fi : ME) (a : A) (σ : Slots) : subR (.ok o st) fi a σ = sub2 (fi σ st) o a σ := rfl
theorem sub2_ok (i : A) (st : Store) (o a : A) (σ : Slots) : sub2 (.ok i st) o a σ = sub3 o i a σ st := rfl
theorem ixN_nat {n j : Nat} (h : j < n) : ixN n (j : Int) = some j := by
  unfold ixN
  rw [if_pos (by omega), if_pos (by omega)]; simp
theorem sub3_l {k : Nat} {st : Store} {xs : List A} (h : st[k]? = some (.lst xs)) {j : Nat} (hj : j < xs.length) (a : A) (σ : Slots) : sub3 (.c k) (.d (.int (j : Nat))) a σ st = some (σ, st.set k (.lst (xs.set j a))) := by
  unfold sub3
  rw [show gSet (.c k) (.d (.int (j : Nat))) a st = some (st.set k (.lst (xs.set j a))) by
    unfold gSet
    simp only [h, ixN_nat hj]]
noncomputable def trO (st : Store) (o : Out) : Out := match o with
  | .nx σ1 st1 => needO (Trunc st st1) (.nx (σ1.map (keepA st.length)) (st1.take st.length))
  | .ct σ1 st1 => needO (Trunc st st1) (.ct (σ1.map (keepA st.length)) (st1.take st.length))
  | .bk σ1 st1 => needO (Trunc st st1) (.bk (σ1.map (keepA st.length)) (st1.take st.length))
  | o => o
theorem mTrunc_ap (m : MS) (σ : Slots) (st : Store) : mTrunc m σ st = trO st (m σ st) := by
  unfold mTrunc trO
  cases m σ st <;> rfl
theorem trO_nx (st L : Store) (σ : Slots) : trO st (.nx σ (st ++ L)) = .nx (σ.map (keepA st.length)) st := by
  show needO (Trunc st (st ++ L)) (.nx (σ.map (keepA st.length)) ((st ++ L).take st.length)) = _
  rw [needO_pos (trunc_app st L), List.take_left']
  rfl
theorem trO_ct (st L : Store) (σ : Slots) : trO st (.ct σ (st ++ L)) = .ct (σ.map (keepA st.length)) st := by
  show needO (Trunc st (st ++ L)) (.ct (σ.map (keepA st.length)) ((st ++ L).take st.length)) = _
  rw [needO_pos (trunc_app st L), List.take_left']
  rfl
theorem trO_nx0 (st : Store) (σ : Slots) : trO st (.nx σ st) = .nx (σ.map (keepA st.length)) st := by
  have := trO_nx st [] σ
  rwa [List.append_nil] at this
theorem trO_ct0 (st : Store) (σ : Slots) : trO st (.ct σ st) = .ct (σ.map (keepA st.length)) st := by
  have := trO_ct st [] σ
  rwa [List.append_nil] at this
theorem trO_rt (st st1 : Store) (a : A) : trO st (.rt a st1) = .rt a st1 := rfl
theorem trO_ex (st st1 : Store) (x : Exn) (σ : Slots) : trO st (.ex x σ st1) = .ex x σ st1 := rfl
theorem keepA_d (n : Nat) (x : D) : keepA n (some (.d x)) = some (.d x) := rfl
theorem keepA_n (n : Nat) : keepA n none = none := rfl
theorem keepA_0 (n : Nat) : keepA n (some (.c n)) = none := if_neg (Nat.lt_irrefl n)
theorem keepA_k (n k : Nat) : keepA n (some (.c (n + k))) = none := if_neg (by omega)
theorem keepA_lt {n i : Nat} (h : i < n) : keepA n (some (.c i)) = some (.c i) := if_pos h
theorem loc_len (st L : Store) : (st ++ L).length = st.length + L.length := List.length_append
end Am
local macro_rules | `(tactic| walk_at "len") => `(tactic| (simp only [List.length_map, List.length_append, List.length_cons, List.length_nil, List.length_replicate, List.length_range, List.length_take, List.length_drop, List.length_reverse, List.length_set]))
local macro_rules | `(tactic| walk_at "dis") => `(tactic| first
  | assumption
  | exact Am.cdivA _ (by decide)
  | (show Am.CDivA _ _; exact Am.cdivA _ ⟨by omega, by omega⟩)
  | exact Am.cmulR _ (by decide)
  | exact Am.cmulL _ (by decide)
  | exact Am.cmulR _ ⟨by omega, by omega⟩
  | exact Am.cmulL _ ⟨by omega, by omega⟩
  | (show (_ : Int) < _; first | decide | omega)
  | (show L2.CPow _ _; decide)
  | (show (_ : Nat) ≤ Am.SZ; unfold Am.SZ; (try walk_at "len"); omega)
  | (show (_ : Nat) < Am.SZ; unfold Am.SZ; (try walk_at "len"); omega)
  | (refine And.intro ?_ ?_ <;> first | omega | decide)
  | (refine And.intro ?_ (And.intro ?_ ?_) <;> first | omega | decide | (show (_ : Nat) ≤ Am.SZ; unfold Am.SZ; (try walk_at "len"); omega))
  | exact rfl)
local macro_rules | `(tactic| walk_at "ev") => `(tactic| simp (config := { implicitDefEqProofs := false }) (disch := walk_at "dis") only [Am.mF_0, Am.mF_1, Am.mF_2, Am.mF_3, Am.mF_4, Am.mF_5, Am.mF_6, Am.mF_7, Am.mF_8, Am.endR_nx, Am.endR_rt, Am.endR_ex0, Am.mSeq_ap, Am.seqO_nx, Am.binR_ok, Am.bin2_ok, Am.consR_ok, Am.cons2_ok, Am.tstR_ok, Am.setO_ok, Am.setO_ex, Am.retO_ok, Am.retO_ex, Am.doO_ok, Am.doO_ex, Am.slR_ok, Am.sl2_ok, Am.sl3_ok, Am.partR_ok, Am.methR_ok, Am.meth2_ok, Am.forO_ok, Am.augO_ok, Am.aug2_ok, Am.seqO_rt, Am.seqO_bk, Am.seqO_ct, Am.seqO_ex, Am.ifO_t, Am.ifO_f, Am.ifO_ex, Am.andR_t, Am.andR_f, Am.orR_t, Am.orR_f, Am.iteR_t, Am.iteR_f, Am.andV_t, Am.andV_f, Am.orV_t, Am.orV_f, Am.mSet_ap, Am.mRet_ap, Am.mRetN, Am.mIf_ap, Am.mDo_ap, Am.mAsg_ap, Am.asgO_ok, Am.asg2_some, Am.mTrunc_ap, Am.trO_nx, Am.trO_nx0, Am.trO_ct, Am.trO_ct0, Am.trO_rt, Am.trO_ex, Am.keepA_d, Am.keepA_n, Am.keepA_0, Am.keepA_k, Am.mPar, Am.mSkip, Am.mCnt, Am.mBrk, Am.mFor_ap, Am.mAug_ap, Am.mAugS, Am.mVar, Am.mC, Am.mBin_ap, Am.mUn, Am.mCall_ap, Am.mCallB_ap, Am.mCons_ap, Am.mNil, Am.mList_ap, Am.mTup_ap, Am.mTst_ap, Am.mTru, Am.mNot, Am.mAnd_ap, Am.mOr_ap, Am.mIfE_ap, Am.mNotV, Am.mAndV_ap, Am.mOrV_ap, Am.mChain, Am.mSl_ap, Am.mNoPart, Am.mPart_ap, Am.mMethL_ap, Am.mFrz, Am.mYes,
  Am.kName, Am.kTup, Am.kCons, Am.kNil, Am.kSub_ap, Am.subR_ok, Am.sub2_ok, Am.bind_ok, Am.bind_ex, Am.lift_ok, Am.lift_ex, Am.iListM, Am.iTupM, Am.iRng1M, Am.iRng2M, Am.gI0, Am.gI, Am.gNeg, Am.gInt, Am.gMin, Am.gMax,
  Am.gAdd_i, Am.gAdd_l, Am.gAdd_t, Am.gAdd_cl, Am.gAdd_lc, Am.gAdd_s, Am.gMul_i, Am.gMul_l, Am.viewL_l, Am.viewL_c, Am.viewS_l, Am.viewS_s, Am.viewS_c, Am.viewS_t, Am.viewS_kt, Am.viewS_str, Am.viewT_t, Am.viewT_kt, Am.gLen_l, Am.gLen_s, Am.gLen_t, Am.gLen_kt, Am.gLen_c, Am.lenC, Am.ixC, Am.gListOf_l, Am.gListOf_s, Am.gListOf_t, Am.gListOf_kt, Am.gListOf_c, Am.gTupOf_l, Am.gTupOf_t, Am.gTupOf_c, Am.gIx_l, Am.gIx_s, Am.gIx_t, Am.gIx_kt, Am.gIx_c, Am.gSl_l, Am.gSl_t, Am.gSl_c, Am.gRev_l, Am.gRev_c, Am.atI_0, Am.atI_1, Am.atI_2, Am.atI_3, Am.atI_4, Am.atI_5, Am.gIs_n, Am.gIs_l, Am.gIs_t, Am.gIs_i, Am.gIs_s, Am.gIs_kt, Am.gEq_if, Am.gEq_it, Am.gIs_c, Am.gIs_b, Am.frz_d, Am.gAppend, Am.gExtend, Am.gPopAt, Am.gSet, Am.gIxM,
  Am.need_pos, Am.ifc_pos, Am.needO_true, Am.truthA, Am.truthD, Am.mkL_c, Am.mkL_e, Am.mkT_e, Am.allD, Am.allD_map, Am.allD_append, Option.bind_some, Am.loc_get, Am.loc_get0, Am.loc_set, Am.loc_set0, Am.loc_push, Am.loc_len, Am.exit2_d, Am.exit2_d0, Am.exitR_0, Am.turn, Am.nxt_nx, Am.nxt_ct,
  List.length_cons, List.length_nil, List.map_cons, List.map_nil, List.cons_append, List.nil_append, List.replicate_succ, List.replicate_zero, List.getElem?_cons_zero, List.getElem?_cons_succ, List.getElem?_nil, List.set_cons_zero, List.set_cons_succ, List.append_nil, List.isEmpty_nil, List.isEmpty_cons, Nat.reduceAdd, Nat.reduceSub, Nat.add_zero, Nat.zero_add, if_pos, if_true, if_false, Bool.false_eq_true, Bool.not_true, Bool.not_false, Option.map_some, Option.map_none, decide_true, decide_false, ite_true, ite_false])
namespace Lw
open PySem PySem.Spec PyProof.Rows L2 Rw Fld
section
variable {P : Program} {w : World} {K : PySem.W.Frag} {mg : Str → Option Value} {base : Heap}
def topS (i : Nat) : Stmt := PySem.Challenge.pw_rotward_k03_log_blocks_and_tails.main.body.getD i (.Pass ⟨0, 0, 0, 0⟩)
structure Txt (K : PySem.W.Frag) (mg : Str → Option Value) : Prop where
  b_int : mg "int" = none
  b_len : mg "len" = none
  b_list : mg "list" = none
  b_min : mg "min" = none
  b_range : mg "range" = none
  c_SECTOR : Glob mg "SECTOR" (.int 32)
  c_SIGN : GlobT K mg "SIGN" [.int 70, .int 73, .int 76, .int 69]
  area_size : Def K mg "area_size" "area_size" (topS 3) ["sectors"]
  area_start : Def K mg "area_start" "area_start" (topS 4) ["sectors", "area"]
  region_start : Def K mg "region_start" "region_start" (topS 5) ["sectors"]
  stripe_count : Def K mg "stripe_count" "stripe_count" (topS 6) ["sectors"]
  write_fixed : Def K mg "write_fixed" "write_fixed" (topS 7) ["number", "count"]
  read_fixed : Def K mg "read_fixed" "read_fixed" (topS 8) ["data"]
  log_block : Def K mg "log_block" "log_block" (topS 9) ["data"]
  read_block : Def K mg "read_block" "read_block" (topS 10) ["sectors", "start"]
  tail : Def K mg "tail" "tail" (topS 11) ["commits", "area", "image", "counting"]
  read_tail : Def K mg "read_tail" "read_tail" (topS 12) ["sector"]
  _law_draw : Def K mg "_law_draw" "_law_draw" (topS 14) ["_law_script", "_law_k"]
  _law_data : Def K mg "_law_data" "_law_data" (topS 15) ["_law_number"]
  _law_fixed : Def K mg "_law_fixed" "_law_fixed" (topS 16) ["_law_number", "_law_count"]
  _law_blocks : Def K mg "_law_blocks" "_law_blocks" (topS 17) ["_law_script"]
  _law_tails : Def K mg "_law_tails" "_law_tails" (topS 18) ["_law_number"]
  _law_parts : Def K mg "_law_parts" "_law_parts" (topS 19) ["_law_sectors"]
  law : Def K mg "law" "law" (topS 20) ["_law_script"]
theorem sc_area_size : FnScope ["sectors"] ["sectors"] (defScope (topS 3)) := ⟨rfl, rfl, rfl, by decide +kernel, rfl, by decide +kernel, by decide +kernel⟩
theorem sc_area_start : FnScope ["sectors", "area"] ["sectors", "area"] (defScope (topS 4)) := ⟨rfl, rfl, rfl, by decide +kernel, rfl, by decide +kernel, by decide +kernel⟩
theorem sc_region_start : FnScope ["sectors"] ["sectors"] (defScope (topS 5)) := ⟨rfl, rfl, rfl, by decide +kernel, rfl, by decide +kernel, by decide +kernel⟩
theorem sc_stripe_count : FnScope ["sectors"] ["sectors"] (defScope (topS 6)) := ⟨rfl, rfl, rfl, by decide +kernel, rfl, by decide +kernel, by decide +kernel⟩
theorem sc_write_fixed : FnScope ["number", "count", "data", "_"] ["number", "count"] (defScope (topS 7)) := ⟨rfl, rfl, rfl, by decide +kernel, rfl, by decide +kernel, by decide +kernel⟩
theorem sc_read_fixed : FnScope ["data", "total", "byte"] ["data"] (defScope (topS 8)) := ⟨rfl, rfl, rfl, by decide +kernel, rfl, by decide +kernel, by decide +kernel⟩
theorem sc_log_block : FnScope ["data", "_", "start"] ["data"] (defScope (topS 9)) := ⟨rfl, rfl, rfl, by decide +kernel, rfl, by decide +kernel, by decide +kernel⟩
theorem sc_read_block : FnScope ["sectors", "start", "size", "end", "data", "sector"] ["sectors", "start"] (defScope (topS 10)) := ⟨rfl, rfl, rfl, by decide +kernel, rfl, by decide +kernel, by decide +kernel⟩
theorem sc_tail : FnScope ["commits", "area", "image", "counting", "data", "_"] ["commits", "area", "image", "counting"] (defScope (topS 11)) := ⟨rfl, rfl, rfl, by decide +kernel, rfl, by decide +kernel, by decide +kernel⟩
theorem sc_read_tail : FnScope ["sector", "told"] ["sector"] (defScope (topS 12)) := ⟨rfl, rfl, rfl, by decide +kernel, rfl, by decide +kernel, by decide +kernel⟩
theorem sc__law_draw : FnScope ["_law_script", "_law_k", "_law_cell", "_law_turn", "_law_step"] ["_law_script", "_law_k"] (defScope (topS 14)) := ⟨rfl, rfl, rfl, by decide +kernel, rfl, by decide +kernel, by decide +kernel⟩
theorem sc__law_data : FnScope ["_law_number", "_law_k"] ["_law_number"] (defScope (topS 15)) := ⟨rfl, rfl, rfl, by decide +kernel, rfl, by decide +kernel, by decide +kernel⟩
theorem sc__law_fixed : FnScope ["_law_number", "_law_count", "_law_data_here", "_law_k"] ["_law_number", "_law_count"] (defScope (topS 16)) := ⟨rfl, rfl, rfl, by decide +kernel, rfl, by decide +kernel, by decide +kernel⟩
theorem sc__law_blocks : FnScope ["_law_script", "_law_sectors", "_law_starts", "_law_rows", "_law_k", "_law_data_here", "_law_block", "_law_whole", "_law_joined", "_law_sector", "_law_end", "_law_place"] ["_law_script"] (defScope (topS 17)) := ⟨rfl, rfl, rfl, by decide +kernel, rfl, by decide +kernel, by decide +kernel⟩
theorem sc__law_tails : FnScope ["_law_number", "_law_commits", "_law_told", "_law_sector", "_law_due", "_law_place", "_law_changed", "_law_k"] ["_law_number"] (defScope (topS 18)) := ⟨rfl, rfl, rfl, by decide +kernel, rfl, by decide +kernel, by decide +kernel⟩
theorem sc__law_parts : FnScope ["_law_sectors", "_law_size"] ["_law_sectors"] (defScope (topS 19)) := ⟨rfl, rfl, rfl, by decide +kernel, rfl, by decide +kernel, by decide +kernel⟩
theorem sc_law : FnScope ["_law_script", "_law_number"] ["_law_script"] (defScope (topS 20)) := ⟨rfl, rfl, rfl, by decide +kernel, rfl, by decide +kernel, by decide +kernel⟩
end
end Lw
namespace Lw
open PySem PySem.Spec PyProof.Rows L2 Am
section
variable {P : Program} {w : World} {K : PySem.W.Frag} {mg : Str → Option Value} {base : Heap}
noncomputable def b_area_size : MS := (mRet (mBin gFdiv (mBin gSub (mVar 0) (mC (.int 2))) (mC (.int 4))))
noncomputable def m_area_size : MF := mF 1 1 0 b_area_size
theorem has_area_size (T : Txt K mg) : Rw.Has P w K mg base (L2.CX P w) 1 "area_size" ["sectors"] (spM ⟨K, mg⟩ m_area_size) := by
  exact def_has (m := b_area_size) 1 1 0 T.area_size sc_area_size rfl rfl (fun f cdv A outer s H E hr tk => (s_one (s_ret (e_fdiv (e_sub (e_var (i := 0)) e_int) e_int))))
noncomputable def b_area_start : MS := (mRet (mBin (gAdd false) (mC (.int 2)) (mBin (gMul false) (mVar 1) (mCall m_area_size (mCons (mVar 0) mNil)))))
noncomputable def m_area_start : MF := mF 2 2 0 b_area_start
theorem has_area_start (T : Txt K mg) : Rw.Has P w K mg base (L2.CX P w) 2 "area_start" ["sectors", "area"] (spM ⟨K, mg⟩ m_area_start) := by
  have h_area_size := has_area_size (P := P) (w := w) (base := base) T
  exact def_has (m := b_area_start) 2 2 0 T.area_start sc_area_start rfl rfl (fun f cdv A outer s H E hr tk => (s_one (s_ret (e_add false e_int (e_mul false (e_var (i := 1)) (e_call h_area_size (hr.mono (by decide)) tk (a_cons (e_var (i := 0)) a_nil)))))))
noncomputable def b_region_start : MS := (mRet (mBin (gAdd false) (mC (.int 2)) (mBin (gMul false) (mC (.int 2)) (mCall m_area_size (mCons (mVar 0) mNil)))))
noncomputable def m_region_start : MF := mF 1 1 0 b_region_start
theorem has_region_start (T : Txt K mg) : Rw.Has P w K mg base (L2.CX P w) 2 "region_start" ["sectors"] (spM ⟨K, mg⟩ m_region_start) := by
  have h_area_size := has_area_size (P := P) (w := w) (base := base) T
  exact def_has (m := b_region_start) 1 1 0 T.region_start sc_region_start rfl rfl (fun f cdv A outer s H E hr tk => (s_one (s_ret (e_add false e_int (e_mul false e_int (e_call h_area_size (hr.mono (by decide)) tk (a_cons (e_var (i := 0)) a_nil)))))))
noncomputable def b_stripe_count : MS := (mRet (mBin gSub (mVar 0) (mCall m_region_start (mCons (mVar 0) mNil))))
noncomputable def m_stripe_count : MF := mF 1 1 0 b_stripe_count
theorem has_stripe_count (T : Txt K mg) : Rw.Has P w K mg base (L2.CX P w) 3 "stripe_count" ["sectors"] (spM ⟨K, mg⟩ m_stripe_count) := by
  have h_region_start := has_region_start (P := P) (w := w) (base := base) T
  exact def_has (m := b_stripe_count) 1 1 0 T.stripe_count sc_stripe_count rfl rfl (fun f cdv A outer s H E hr tk => (s_one (s_ret (e_sub (e_var (i := 0)) (e_call h_region_start (hr.mono (by decide)) tk (a_cons (e_var (i := 0)) a_nil))))))
noncomputable def b_write_fixed : MS := (mSeq (mSet 2 (mList true mNil))
  (mSeq (mFor (iRng1M (mCons (mVar 1) mNil)) (kName 3)
  (mSeq (mDo (mMethL gAppend (mVar 2) (mCons (mBin gMod (mVar 0) (mC (.int 256))) mNil)))
  (mSet 0 (mBin gFdiv (mVar 0) (mC (.int 256))))))
  (mRet (mUn (gRev false) (mVar 2)))))
noncomputable def m_write_fixed : MF := mF 2 4 2 b_write_fixed
theorem has_write_fixed (T : Txt K mg) : Rw.Has P w K mg base (L2.CX P w) 1 "write_fixed" ["number", "count"] (spM ⟨K, mg⟩ m_write_fixed) := by
  exact def_has (m := b_write_fixed) 2 4 2 T.write_fixed sc_write_fixed rfl rfl (fun f cdv A outer s H E hr tk => (s_cons (s_set (j := 2) sc_write_fixed.nd rfl (by first | exact Or.inl rfl | exact Or.inr rfl) (e_list true a_nil))
  (s_cons (s_for (passes_of rfl) rfl (i_range1 T.b_range (a_cons (e_var (i := 1)) a_nil)) (g_name (j := 3) sc_write_fixed.nd rfl (by first | exact Or.inl rfl | exact Or.inr rfl))
  (s_cons (s_do (e_methL PySem.F.slot_list_append PySem.F.type_list_append mt_append gAppend_ok (e_var (i := 2)) (a_cons (e_mod (e_var (i := 0)) e_int) a_nil) ⟨rfl, rfl⟩))
  (s_one (s_set (j := 0) sc_write_fixed.nd rfl (by first | exact Or.inl rfl | exact Or.inr rfl) (e_fdiv (e_var (i := 0)) e_int)))))
  (s_one (s_ret (e_rev false (e_var (i := 2))))))))
noncomputable def b_read_fixed : MS := (mSeq (mSet 1 (mC (.int 0)))
  (mSeq (mFor (iListM (mVar 0)) (kName 2)
  (mSet 1 (mBin (gAdd false) (mBin (gMul false) (mVar 1) (mC (.int 256))) (mVar 2))))
  (mRet (mVar 1))))
noncomputable def m_read_fixed : MF := mF 1 3 0 b_read_fixed
theorem has_read_fixed (T : Txt K mg) : Rw.Has P w K mg base (L2.CX P w) 1 "read_fixed" ["data"] (spM ⟨K, mg⟩ m_read_fixed) := by
  exact def_has (m := b_read_fixed) 1 3 0 T.read_fixed sc_read_fixed rfl rfl (fun f cdv A outer s H E hr tk => (s_cons (s_set (j := 1) sc_read_fixed.nd rfl (by first | exact Or.inl rfl | exact Or.inr rfl) e_int)
  (s_cons (s_for (passes_of rfl) rfl (i_list (e_var (i := 0))) (g_name (j := 2) sc_read_fixed.nd rfl (by first | exact Or.inl rfl | exact Or.inr rfl))
  (s_one (s_set (j := 1) sc_read_fixed.nd rfl (by first | exact Or.inl rfl | exact Or.inr rfl) (e_add false (e_mul false (e_var (i := 1)) e_int) (e_var (i := 2))))))
  (s_one (s_ret (e_var (i := 1)))))))
end
end Lw
namespace Lw
open PySem PySem.Spec PyProof.Rows L2 Am
section
variable {P : Program} {w : World} {K : PySem.W.Frag} {mg : Str → Option Value} {base : Heap}
noncomputable def b_log_block : MS := (mSeq (mSet 0 (mBin (gAdd true) (mCall m_write_fixed (mCons (mCallB gLen (mCons (mVar 0) mNil)) (mCons (mC (.int 4)) mNil))) (mCallB (gListOf false) (mCons (mVar 0) mNil))))
  (mSeq (mDo (mMethL gExtend (mVar 0) (mCons (mLc false [1] (pt1 1) (iRng1M (mCons (mBin gMod (mUn gNeg (mCallB gLen (mCons (mVar 0) mNil))) (mC (.int 32))) mNil)) mYes (mC (.int 0))) mNil)))
  (mRet (mLc false [2] (pt1 2) (iRng3M (mCons (mC (.int 0)) (mCons (mCallB gLen (mCons (mVar 0) mNil)) (mCons (mC (.int 32)) mNil)))) mYes (mSl false (mVar 0) (mPart (mVar 2)) (mPart (mBin (gAdd false) (mVar 2) (mC (.int 32)))))))))
noncomputable def m_log_block : MF := mF 1 3 2 b_log_block
theorem has_log_block (T : Txt K mg) : Rw.Has P w K mg base (L2.CX P w) 2 "log_block" ["data"] (spM ⟨K, mg⟩ m_log_block) := by
  have h_write_fixed := has_write_fixed (P := P) (w := w) (base := base) T
  exact def_has (m := b_log_block) 1 3 2 T.log_block sc_log_block rfl rfl (fun f cdv A outer s H E hr tk => (s_cons (s_set (j := 0) sc_log_block.nd rfl (by first | exact Or.inl rfl | exact Or.inr rfl) (e_add true (e_call h_write_fixed (hr.mono (by decide)) tk (a_cons (e_len (a_cons (e_var (i := 0)) a_nil) T.b_len) (a_cons e_int a_nil))) (e_listc false (a_cons (e_var (i := 0)) a_nil) T.b_list)))
  (s_cons (s_do (e_methL PySem.F.slot_list_extend PySem.F.type_list_extend mt_extend gExtend_ok (e_var (i := 0)) (a_cons (e_lc (own := [("_", 1)]) false (pt1_ok 1) rfl sc_log_block.nd (i_range1 T.b_range (a_cons (e_mod (e_neg (e_len (a_cons (e_var (i := 0)) a_nil) T.b_len)) (e_glob T.c_SECTOR)) a_nil)) (blkOk_by (own := [("_", 1)]) (N := ["data", "_", "start"]) (sc := defScope (topS 9)) (by decide +kernel)) (fun _ _ _ _ _ => (pg_name (i := 1) sc_log_block.nd rfl (by first | exact Or.inl rfl | exact Or.inr rfl))) (fun _ _ _ _ _ => ts_nil) (fun _ _ _ _ _ => e_int)) a_nil) ⟨rfl, rfl⟩))
  (s_one (s_ret (e_lc (own := [("start", 2)]) false (pt1_ok 2) rfl sc_log_block.nd (i_range3 T.b_range (a_cons e_int (a_cons (e_len (a_cons (e_var (i := 0)) a_nil) T.b_len) (a_cons (e_glob T.c_SECTOR) a_nil)))) (blkOk_by (own := [("start", 2)]) (N := ["data", "_", "start"]) (sc := defScope (topS 9)) (by decide +kernel)) (fun _ _ _ _ _ => (pg_name (i := 2) sc_log_block.nd rfl (by first | exact Or.inl rfl | exact Or.inr rfl))) (fun _ _ _ _ _ => ts_nil) (fun _ _ _ _ _ => (e_sl false (e_var (i := 0)) (o_some (e_var (i := 2))) (o_some (e_add false (e_var (i := 2)) (e_glob T.c_SECTOR)))))))))))
noncomputable def b_read_block : MS := (mSeq (mIf (mTst (mBin gGe (mVar 1) (mCallB gLen (mCons (mVar 0) mNil))))
  (mRet (mC .non))
  mSkip)
  (mSeq (mSet 2 (mCall m_read_fixed (mCons (mSl false (mBin gIx (mVar 0) (mVar 1)) mNoPart (mPart (mC (.int 4)))) mNil)))
  (mSeq (mSet 3 (mBin (gAdd false) (mVar 1) (mBin gFdiv (mBin gSub (mBin (gAdd false) (mBin (gAdd false) (mC (.int 4)) (mVar 2)) (mC (.int 32))) (mC (.int 1))) (mC (.int 32)))))
  (mSeq (mIf (mTst (mBin gGt (mVar 3) (mCallB gLen (mCons (mVar 0) mNil))))
  (mRet (mC .non))
  mSkip)
  (mSeq (mSet 4 (mList true mNil))
  (mSeq (mFor (iListM (mSl false (mVar 0) (mPart (mVar 1)) (mPart (mVar 3)))) (kName 5)
  (mDo (mMethL gExtend (mVar 4) (mCons (mVar 5) mNil))))
  (mRet (mTup (mCons (mSl false (mVar 4) (mPart (mC (.int 4))) (mPart (mBin (gAdd false) (mC (.int 4)) (mVar 2)))) (mCons (mVar 3) mNil))))))))))
noncomputable def m_read_block : MF := mF 2 6 2 b_read_block
theorem has_read_block (T : Txt K mg) : Rw.Has P w K mg base (L2.CX P w) 2 "read_block" ["sectors", "start"] (spM ⟨K, mg⟩ m_read_block) := by
  have h_read_fixed := has_read_fixed (P := P) (w := w) (base := base) T
  exact def_has (m := b_read_block) 2 6 2 T.read_block sc_read_block rfl rfl (fun f cdv A outer s H E hr tk => (s_cons (s_if (t_ge (e_var (i := 1)) (e_len (a_cons (e_var (i := 0)) a_nil) T.b_len))
  (s_one (s_ret e_non))
  s_nil)
  (s_cons (s_set (j := 2) sc_read_block.nd rfl (by first | exact Or.inl rfl | exact Or.inr rfl) (e_call h_read_fixed (hr.mono (by decide)) tk (a_cons (e_sl false (e_ix hr (e_var (i := 0)) (e_var (i := 1))) o_none (o_some e_int)) a_nil)))
  (s_cons (s_set (j := 3) sc_read_block.nd rfl (by first | exact Or.inl rfl | exact Or.inr rfl) (e_add false (e_var (i := 1)) (e_fdiv (e_sub (e_add false (e_add false e_int (e_var (i := 2))) (e_glob T.c_SECTOR)) e_int) (e_glob T.c_SECTOR))))
  (s_cons (s_if (t_gt (e_var (i := 3)) (e_len (a_cons (e_var (i := 0)) a_nil) T.b_len))
  (s_one (s_ret e_non))
  s_nil)
  (s_cons (s_set (j := 4) sc_read_block.nd rfl (by first | exact Or.inl rfl | exact Or.inr rfl) (e_list true a_nil))
  (s_cons (s_for (passes_of rfl) rfl (i_list (e_sl false (e_var (i := 0)) (o_some (e_var (i := 1))) (o_some (e_var (i := 3))))) (g_name (j := 5) sc_read_block.nd rfl (by first | exact Or.inl rfl | exact Or.inr rfl))
  (s_one (s_do (e_methL PySem.F.slot_list_extend PySem.F.type_list_extend mt_extend gExtend_ok (e_var (i := 4)) (a_cons (e_var (i := 5)) a_nil) ⟨rfl, rfl⟩))))
  (s_one (s_ret (e_tup (a_cons (e_sl false (e_var (i := 4)) (o_some e_int) (o_some (e_add false e_int (e_var (i := 2))))) (a_cons (e_var (i := 3)) a_nil))))))))))))
noncomputable def b_tail : MS := (mSeq (mSet 4 (mBin (gAdd false) (mBin (gAdd false) (mBin (gAdd false) (mBin (gAdd false) (mCallB (gListOf false) (mCons (mC (.kt [.int 70, .int 73, .int 76, .int 69])) mNil)) (mCall m_write_fixed (mCons (mVar 0) (mCons (mC (.int 6)) mNil)))) (mList false (mCons (mVar 1) mNil))) (mCall m_write_fixed (mCons (mVar 2) (mCons (mC (.int 4)) mNil)))) (mCall m_write_fixed (mCons (mVar 3) (mCons (mC (.int 4)) mNil)))))
  (mRet (mBin (gAdd false) (mVar 4) (mLc false [5] (pt1 5) (iRng1M (mCons (mBin gSub (mC (.int 32)) (mCallB gLen (mCons (mVar 4) mNil))) mNil)) mYes (mC (.int 0))))))
noncomputable def m_tail : MF := mF 4 6 0 b_tail
theorem has_tail (T : Txt K mg) : Rw.Has P w K mg base (L2.CX P w) 2 "tail" ["commits", "area", "image", "counting"] (spM ⟨K, mg⟩ m_tail) := by
  have h_write_fixed := has_write_fixed (P := P) (w := w) (base := base) T
  exact def_has (m := b_tail) 4 6 0 T.tail sc_tail rfl rfl (fun f cdv A outer s H E hr tk => (s_cons (s_set (j := 4) sc_tail.nd rfl (by first | exact Or.inl rfl | exact Or.inr rfl) (e_add false (e_add false (e_add false (e_add false (e_listc false (a_cons (e_globT T.c_SIGN (by decide)) a_nil) T.b_list) (e_call h_write_fixed (hr.mono (by decide)) tk (a_cons (e_var (i := 0)) (a_cons e_int a_nil)))) (e_list false (a_cons (e_var (i := 1)) a_nil))) (e_call h_write_fixed (hr.mono (by decide)) tk (a_cons (e_var (i := 2)) (a_cons e_int a_nil)))) (e_call h_write_fixed (hr.mono (by decide)) tk (a_cons (e_var (i := 3)) (a_cons e_int a_nil)))))
  (s_one (s_ret (e_add false (e_var (i := 4)) (e_lc (own := [("_", 5)]) false (pt1_ok 5) rfl sc_tail.nd (i_range1 T.b_range (a_cons (e_sub (e_glob T.c_SECTOR) (e_len (a_cons (e_var (i := 4)) a_nil) T.b_len)) a_nil)) (blkOk_by (own := [("_", 5)]) (N := ["commits", "area", "image", "counting", "data", "_"]) (sc := defScope (topS 11)) (by decide +kernel)) (fun _ _ _ _ _ => (pg_name (i := 5) sc_tail.nd rfl (by first | exact Or.inl rfl | exact Or.inr rfl))) (fun _ _ _ _ _ => ts_nil) (fun _ _ _ _ _ => e_int)))))))
noncomputable def b_read_tail : MS := (mSeq (mIf (mTst (mBin (gIs false) (mVar 0) (mC .non)))
  (mRet (mC .non))
  mSkip)
  (mSeq (mSet 1 (mTup (mCons (mCall m_read_fixed (mCons (mSl false (mVar 0) (mPart (mC (.int 4))) (mPart (mC (.int 10)))) mNil)) (mCons (mBin gIx (mVar 0) (mC (.int 10))) (mCons (mCall m_read_fixed (mCons (mSl false (mVar 0) (mPart (mC (.int 11))) (mPart (mC (.int 15)))) mNil)) (mCons (mCall m_read_fixed (mCons (mSl false (mVar 0) (mPart (mC (.int 15))) (mPart (mC (.int 19)))) mNil)) mNil))))))
  (mSeq (mIf (mOr (mTst (mBin gGt (mBin gIx (mVar 1) (mC (.int 1))) (mC (.int 1)))) (mTst (mBin (gEq true) (mCall m_tail (mCons (mBin gIx (mVar 1) (mC (.int 0))) (mCons (mBin gIx (mVar 1) (mC (.int 1))) (mCons (mBin gIx (mVar 1) (mC (.int 2))) (mCons (mBin gIx (mVar 1) (mC (.int 3))) mNil))))) (mVar 0))))
  (mRet (mC .non))
  mSkip)
  (mRet (mVar 1)))))
noncomputable def m_read_tail : MF := mF 1 2 0 b_read_tail
theorem has_read_tail (T : Txt K mg) : Rw.Has P w K mg base (L2.CX P w) 3 "read_tail" ["sector"] (spM ⟨K, mg⟩ m_read_tail) := by
  have h_read_fixed := has_read_fixed (P := P) (w := w) (base := base) T
  have h_tail := has_tail (P := P) (w := w) (base := base) T
  exact def_has (m := b_read_tail) 1 2 0 T.read_tail sc_read_tail rfl rfl (fun f cdv A outer s H E hr tk => (s_cons (s_if (t_is (e_var (i := 0)) e_non)
  (s_one (s_ret e_non))
  s_nil)
  (s_cons (s_set (j := 1) sc_read_tail.nd rfl (by first | exact Or.inl rfl | exact Or.inr rfl) (e_tup (a_cons (e_call h_read_fixed (hr.mono (by decide)) tk (a_cons (e_sl false (e_var (i := 0)) (o_some e_int) (o_some e_int)) a_nil)) (a_cons (e_ix hr (e_var (i := 0)) e_int) (a_cons (e_call h_read_fixed (hr.mono (by decide)) tk (a_cons (e_sl false (e_var (i := 0)) (o_some e_int) (o_some e_int)) a_nil)) (a_cons (e_call h_read_fixed (hr.mono (by decide)) tk (a_cons (e_sl false (e_var (i := 0)) (o_some e_int) (o_some e_int)) a_nil)) a_nil))))))
  (s_cons (s_if (t_bool (w_or (t_gt (e_ix hr (e_var (i := 1)) e_int) e_int) (w_or1 (t_ne hr (e_call h_tail (hr.mono (by decide)) tk (a_cons (e_ix hr (e_var (i := 1)) e_int) (a_cons (e_ix hr (e_var (i := 1)) e_int) (a_cons (e_ix hr (e_var (i := 1)) e_int) (a_cons (e_ix hr (e_var (i := 1)) e_int) a_nil))))) (e_var (i := 0))))))
  (s_one (s_ret e_non))
  s_nil)
  (s_one (s_ret (e_var (i := 1))))))))
end
end Lw
namespace Lw
open PySem PySem.Spec PyProof.Rows L2 Am
section
variable {P : Program} {w : World} {K : PySem.W.Frag} {mg : Str → Option Value} {base : Heap}
noncomputable def b__law_draw : MS := (mSeq (mIf (mNot (mTru (mVar 0)))
  (mRet (mBin gMod (mBin (gMul false) (mVar 1) (mC (.int 5))) (mC (.int 7))))
  mSkip)
  (mSeq (mSet 2 (mCallB gInt (mCons (mBin gIx (mVar 0) (mBin gMod (mVar 1) (mCallB gLen (mCons (mVar 0) mNil)))) mNil)))
  (mSeq (mSet 3 (mBin gFdiv (mVar 1) (mCallB gLen (mCons (mVar 0) mNil))))
  (mSeq (mIf (mTst (mBin gGe (mVar 2) (mC (.int 1000000000000000000))))
  (mSeq (mFor (iRng1M (mCons (mCallB gMin (mCons (mVar 3) (mCons (mC (.int 60)) mNil))) mNil)) (kName 4)
  (mSet 2 (mBin gFdiv (mVar 2) (mC (.int 100003)))))
  (mRet (mBin gMod (mVar 2) (mC (.int 100003)))))
  mSkip)
  (mRet (mBin gMod (mBin (gMul false) (mBin gMod (mBin (gAdd false) (mBin (gAdd false) (mBin (gMul false) (mVar 2) (mC (.int 48271))) (mBin (gMul false) (mVar 1) (mC (.int 69621)))) (mC (.int 13))) (mC (.int 2147483647))) (mC (.int 16807))) (mC (.int 2147483629))))))))
noncomputable def m__law_draw : MF := mF 2 5 0 b__law_draw
theorem has__law_draw (T : Txt K mg) : Rw.Has P w K mg base (L2.CX P w) 1 "_law_draw" ["_law_script", "_law_k"] (spM ⟨K, mg⟩ m__law_draw) := by
  exact def_has (m := b__law_draw) 2 5 0 T._law_draw sc__law_draw rfl rfl (fun f cdv A outer s H E hr tk => (s_cons (s_if (t_not (t_tru (e_var (i := 0))))
  (s_one (s_ret (e_mod (e_mul false (e_var (i := 1)) e_int) e_int)))
  s_nil)
  (s_cons (s_set (j := 2) sc__law_draw.nd rfl (by first | exact Or.inl rfl | exact Or.inr rfl) (e_intc (a_cons (e_ix hr (e_var (i := 0)) (e_mod (e_var (i := 1)) (e_len (a_cons (e_var (i := 0)) a_nil) T.b_len))) a_nil) T.b_int))
  (s_cons (s_set (j := 3) sc__law_draw.nd rfl (by first | exact Or.inl rfl | exact Or.inr rfl) (e_fdiv (e_var (i := 1)) (e_len (a_cons (e_var (i := 0)) a_nil) T.b_len)))
  (s_cons (s_if (t_ge (e_var (i := 2)) e_int)
  (s_cons (s_for (passes_of rfl) rfl (i_range1 T.b_range (a_cons (e_min rfl (a_cons (e_var (i := 3)) (a_cons e_int a_nil)) T.b_min) a_nil)) (g_name (j := 4) sc__law_draw.nd rfl (by first | exact Or.inl rfl | exact Or.inr rfl))
  (s_one (s_set (j := 2) sc__law_draw.nd rfl (by first | exact Or.inl rfl | exact Or.inr rfl) (e_fdiv (e_var (i := 2)) e_int))))
  (s_one (s_ret (e_mod (e_var (i := 2)) e_int))))
  s_nil)
  (s_one (s_ret (e_mod (e_mul false (e_mod (e_add false (e_add false (e_mul false (e_var (i := 2)) e_int) (e_mul false (e_var (i := 1)) e_int)) e_int) e_int) e_int) e_int))))))))
noncomputable def b__law_data : MS := (mRet (mLc false [1] (pt1 1) (iRng1M (mCons (mBin gMod (mVar 0) (mC (.int 301))) mNil)) mYes (mBin gMod (mBin (gAdd false) (mBin gFdiv (mVar 0) (mBin (gAdd false) (mC (.int 1)) (mBin gMod (mVar 1) (mC (.int 7))))) (mBin (gMul false) (mC (.int 3)) (mVar 1))) (mC (.int 256)))))
noncomputable def m__law_data : MF := mF 1 2 0 b__law_data
theorem has__law_data (T : Txt K mg) : Rw.Has P w K mg base (L2.CX P w) 1 "_law_data" ["_law_number"] (spM ⟨K, mg⟩ m__law_data) := by
  exact def_has (m := b__law_data) 1 2 0 T._law_data sc__law_data rfl rfl (fun f cdv A outer s H E hr tk => (s_one (s_ret (e_lc (own := [("_law_k", 1)]) false (pt1_ok 1) rfl sc__law_data.nd (i_range1 T.b_range (a_cons (e_mod (e_var (i := 0)) e_int) a_nil)) (blkOk_by (own := [("_law_k", 1)]) (N := ["_law_number", "_law_k"]) (sc := defScope (topS 15)) (by decide +kernel)) (fun _ _ _ _ _ => (pg_name (i := 1) sc__law_data.nd rfl (by first | exact Or.inl rfl | exact Or.inr rfl))) (fun _ _ _ _ _ => ts_nil) (fun _ _ _ _ _ => (e_mod (e_add false (e_fdiv (e_var (i := 0)) (e_add false e_int (e_mod (e_var (i := 1)) e_int))) (e_mul false e_int (e_var (i := 1)))) e_int))))))
noncomputable def b__law_fixed : MS := (mSeq (mSet 2 (mList false mNil))
  (mSeq (mFor (iRng1M (mCons (mVar 1) mNil)) (kName 3)
  (mSeq (mSet 2 (mBin (gAdd false) (mList false (mCons (mBin gMod (mVar 0) (mC (.int 256))) mNil)) (mVar 2)))
  (mSet 0 (mBin gFdiv (mVar 0) (mC (.int 256))))))
  (mRet (mVar 2))))
noncomputable def m__law_fixed : MF := mF 2 4 0 b__law_fixed
theorem has__law_fixed (T : Txt K mg) : Rw.Has P w K mg base (L2.CX P w) 1 "_law_fixed" ["_law_number", "_law_count"] (spM ⟨K, mg⟩ m__law_fixed) := by
  exact def_has (m := b__law_fixed) 2 4 0 T._law_fixed sc__law_fixed rfl rfl (fun f cdv A outer s H E hr tk => (s_cons (s_set (j := 2) sc__law_fixed.nd rfl (by first | exact Or.inl rfl | exact Or.inr rfl) (e_list false a_nil))
  (s_cons (s_for (passes_of rfl) rfl (i_range1 T.b_range (a_cons (e_var (i := 1)) a_nil)) (g_name (j := 3) sc__law_fixed.nd rfl (by first | exact Or.inl rfl | exact Or.inr rfl))
  (s_cons (s_set (j := 2) sc__law_fixed.nd rfl (by first | exact Or.inl rfl | exact Or.inr rfl) (e_add false (e_list false (a_cons (e_mod (e_var (i := 0)) e_int) a_nil)) (e_var (i := 2))))
  (s_one (s_set (j := 0) sc__law_fixed.nd rfl (by first | exact Or.inl rfl | exact Or.inr rfl) (e_fdiv (e_var (i := 0)) e_int)))))
  (s_one (s_ret (e_var (i := 2)))))))
noncomputable def b__law_blocks : MS := (mSeq (mSet 1 (mList false mNil))
  (mSeq (mSet 2 (mList true mNil))
  (mSeq (mSet 3 (mList true mNil))
  (mSeq (mFor (iRng1M (mCons (mC (.int 3)) mNil)) (kName 4)
  (mSeq (mSet 5 (mCall m__law_data (mCons (mCall m__law_draw (mCons (mVar 0) (mCons (mVar 4) mNil))) mNil)))
  (mSeq (mSet 6 (mCall m_log_block (mCons (mCallB (gListOf false) (mCons (mVar 5) mNil)) mNil)))
  (mSeq (mSet 7 (mBin (gAdd false) (mCall m__law_fixed (mCons (mCallB gLen (mCons (mVar 5) mNil)) (mCons (mC (.int 4)) mNil))) (mVar 5)))
  (mSeq (mSet 7 (mBin (gAdd false) (mVar 7) (mLc false [11] (pt1 11) (iRng1M (mCons (mBin gMod (mBin gSub (mC (.int 32)) (mBin gMod (mCallB gLen (mCons (mVar 7) mNil)) (mC (.int 32)))) (mC (.int 32))) mNil)) mYes (mC (.int 0)))))
  (mSeq (mSet 8 (mList false mNil))
  (mSeq (mFor (iListM (mVar 6)) (kName 9)
  (mSeq (mIf (mTst (mBin (gEq true) (mCallB gLen (mCons (mVar 9) mNil)) (mC (.int 32))))
  (mRet (mC (.bl false)))
  mSkip)
  (mSet 8 (mBin (gAdd false) (mVar 8) (mVar 9)))))
  (mSeq (mIf (mTst (mBin (gEq true) (mVar 8) (mVar 7)))
  (mRet (mC (.bl false)))
  mSkip)
  (mSeq (mDo (mMethL gAppend (mVar 2) (mCons (mCallB gLen (mCons (mVar 1) mNil)) mNil)))
  (mSeq (mDo (mMethL gAppend (mVar 3) (mCons (mVar 5) mNil)))
  (mSet 1 (mBin (gAdd false) (mVar 1) (mVar 6)))))))))))))
  (mSeq (mFor (iRng1M (mCons (mC (.int 3)) mNil)) (kName 4)
  (mSeq (mSet 10 (mBin gIx (mBin (gAdd false) (mVar 2) (mList false (mCons (mCallB gLen (mCons (mVar 1) mNil)) mNil))) (mBin (gAdd false) (mVar 4) (mC (.int 1)))))
  (mIf (mOr (mTst (mBin (gEq true) (mCall m_read_block (mCons (mCallB (gListOf false) (mCons (mVar 1) mNil)) (mCons (mBin gIx (mVar 2) (mVar 4)) mNil))) (mTup (mCons (mBin gIx (mVar 3) (mVar 4)) (mCons (mVar 10) mNil))))) (mTst (mBin (gIs true) (mCall m_read_block (mCons (mSl false (mVar 1) mNoPart (mPart (mBin gSub (mVar 10) (mC (.int 1))))) (mCons (mBin gIx (mVar 2) (mVar 4)) mNil))) (mC .non))))
  (mRet (mC (.bl false)))
  mSkip)))
  (mRet (mBin (gIs false) (mCall m_read_block (mCons (mVar 1) (mCons (mCallB gLen (mCons (mVar 1) mNil)) mNil))) (mC .non))))))))
noncomputable def m__law_blocks : MF := mF 1 12 2 b__law_blocks
theorem has__law_blocks (T : Txt K mg) : Rw.Has P w K mg base (L2.CX P w) 3 "_law_blocks" ["_law_script"] (spM ⟨K, mg⟩ m__law_blocks) := by
  have h__law_data := has__law_data (P := P) (w := w) (base := base) T
  have h__law_draw := has__law_draw (P := P) (w := w) (base := base) T
  have h__law_fixed := has__law_fixed (P := P) (w := w) (base := base) T
  have h_log_block := has_log_block (P := P) (w := w) (base := base) T
  have h_read_block := has_read_block (P := P) (w := w) (base := base) T
  exact def_has (m := b__law_blocks) 1 12 2 T._law_blocks sc__law_blocks rfl rfl (fun f cdv A outer s H E hr tk => (s_cons (s_set (j := 1) sc__law_blocks.nd rfl (by first | exact Or.inl rfl | exact Or.inr rfl) (e_list false a_nil))
  (s_cons (s_set (j := 2) sc__law_blocks.nd rfl (by first | exact Or.inl rfl | exact Or.inr rfl) (e_list true a_nil))
  (s_cons (s_set (j := 3) sc__law_blocks.nd rfl (by first | exact Or.inl rfl | exact Or.inr rfl) (e_list true a_nil))
  (s_cons (s_for (passes_of rfl) rfl (i_range1 T.b_range (a_cons e_int a_nil)) (g_name (j := 4) sc__law_blocks.nd rfl (by first | exact Or.inl rfl | exact Or.inr rfl))
  (s_cons (s_set (j := 5) sc__law_blocks.nd rfl (by first | exact Or.inl rfl | exact Or.inr rfl) (e_call h__law_data (hr.mono (by decide)) tk (a_cons (e_call h__law_draw (hr.mono (by decide)) tk (a_cons (e_var (i := 0)) (a_cons (e_var (i := 4)) a_nil))) a_nil)))
  (s_cons (s_set (j := 6) sc__law_blocks.nd rfl (by first | exact Or.inl rfl | exact Or.inr rfl) (e_call h_log_block (hr.mono (by decide)) tk (a_cons (e_listc false (a_cons (e_var (i := 5)) a_nil) T.b_list) a_nil)))
  (s_cons (s_set (j := 7) sc__law_blocks.nd rfl (by first | exact Or.inl rfl | exact Or.inr rfl) (e_add false (e_call h__law_fixed (hr.mono (by decide)) tk (a_cons (e_len (a_cons (e_var (i := 5)) a_nil) T.b_len) (a_cons e_int a_nil))) (e_var (i := 5))))
  (s_cons (s_set (j := 7) sc__law_blocks.nd rfl (by first | exact Or.inl rfl | exact Or.inr rfl) (e_add false (e_var (i := 7)) (e_lc (own := [("_law_place", 11)]) false (pt1_ok 11) rfl sc__law_blocks.nd (i_range1 T.b_range (a_cons (e_mod (e_sub e_int (e_mod (e_len (a_cons (e_var (i := 7)) a_nil) T.b_len) e_int)) e_int) a_nil)) (blkOk_by (own := [("_law_place", 11)]) (N := ["_law_script", "_law_sectors", "_law_starts", "_law_rows", "_law_k", "_law_data_here", "_law_block", "_law_whole", "_law_joined", "_law_sector", "_law_end", "_law_place"]) (sc := defScope (topS 17)) (by decide +kernel)) (fun _ _ _ _ _ => (pg_name (i := 11) sc__law_blocks.nd rfl (by first | exact Or.inl rfl | exact Or.inr rfl))) (fun _ _ _ _ _ => ts_nil) (fun _ _ _ _ _ => e_int))))
  (s_cons (s_set (j := 8) sc__law_blocks.nd rfl (by first | exact Or.inl rfl | exact Or.inr rfl) (e_list false a_nil))
  (s_cons (s_for (passes_of rfl) rfl (i_list (e_var (i := 6))) (g_name (j := 9) sc__law_blocks.nd rfl (by first | exact Or.inl rfl | exact Or.inr rfl))
  (s_cons (s_if (t_ne hr (e_len (a_cons (e_var (i := 9)) a_nil) T.b_len) e_int)
  (s_one (s_ret e_bl))
  s_nil)
  (s_one (s_set (j := 8) sc__law_blocks.nd rfl (by first | exact Or.inl rfl | exact Or.inr rfl) (e_add false (e_var (i := 8)) (e_var (i := 9)))))))
  (s_cons (s_if (t_ne hr (e_var (i := 8)) (e_var (i := 7)))
  (s_one (s_ret e_bl))
  s_nil)
  (s_cons (s_do (e_methL PySem.F.slot_list_append PySem.F.type_list_append mt_append gAppend_ok (e_var (i := 2)) (a_cons (e_len (a_cons (e_var (i := 1)) a_nil) T.b_len) a_nil) ⟨rfl, rfl⟩))
  (s_cons (s_do (e_methL PySem.F.slot_list_append PySem.F.type_list_append mt_append gAppend_ok (e_var (i := 3)) (a_cons (e_var (i := 5)) a_nil) ⟨rfl, rfl⟩))
  (s_one (s_set (j := 1) sc__law_blocks.nd rfl (by first | exact Or.inl rfl | exact Or.inr rfl) (e_add false (e_var (i := 1)) (e_var (i := 6)))))))))))))))
  (s_cons (s_for (passes_of rfl) rfl (i_range1 T.b_range (a_cons e_int a_nil)) (g_name (j := 4) sc__law_blocks.nd rfl (by first | exact Or.inl rfl | exact Or.inr rfl))
  (s_cons (s_set (j := 10) sc__law_blocks.nd rfl (by first | exact Or.inl rfl | exact Or.inr rfl) (e_ix hr (e_add false (e_var (i := 2)) (e_list false (a_cons (e_len (a_cons (e_var (i := 1)) a_nil) T.b_len) a_nil))) (e_add false (e_var (i := 4)) e_int)))
  (s_one (s_if (t_bool (w_or (t_ne hr (e_call h_read_block (hr.mono (by decide)) tk (a_cons (e_listc false (a_cons (e_var (i := 1)) a_nil) T.b_list) (a_cons (e_ix hr (e_var (i := 2)) (e_var (i := 4))) a_nil))) (e_tup (a_cons (e_ix hr (e_var (i := 3)) (e_var (i := 4))) (a_cons (e_var (i := 10)) a_nil)))) (w_or1 (t_isnot (e_call h_read_block (hr.mono (by decide)) tk (a_cons (e_sl false (e_var (i := 1)) o_none (o_some (e_sub (e_var (i := 10)) e_int))) (a_cons (e_ix hr (e_var (i := 2)) (e_var (i := 4))) a_nil))) e_non))))
  (s_one (s_ret e_bl))
  s_nil))))
  (s_one (s_ret (e_is (e_call h_read_block (hr.mono (by decide)) tk (a_cons (e_var (i := 1)) (a_cons (e_len (a_cons (e_var (i := 1)) a_nil) T.b_len) a_nil))) e_non)))))))))
noncomputable def b__law_tails : MS := (mSeq (mSet 1 (mBin (gMul false) (mVar 0) (mVar 0)))
  (mSeq (mSet 2 (mTup (mCons (mVar 1) (mCons (mBin gMod (mVar 0) (mC (.int 2))) (mCons (mBin gMod (mBin gFdiv (mVar 0) (mC (.int 2))) (mC (.int 70000))) (mCons (mBin gMod (mBin gFdiv (mVar 0) (mC (.int 3))) (mC (.int 70000))) mNil))))))
  (mSeq (mSet 3 (mCall m_tail (mCons (mBin gIx (mVar 2) (mC (.int 0))) (mCons (mBin gIx (mVar 2) (mC (.int 1))) (mCons (mBin gIx (mVar 2) (mC (.int 2))) (mCons (mBin gIx (mVar 2) (mC (.int 3))) mNil))))))
  (mSeq (mSet 4 (mBin (gAdd false) (mBin (gAdd false) (mBin (gAdd false) (mBin (gAdd false) (mList false (mCons (mC (.int 70)) (mCons (mC (.int 73)) (mCons (mC (.int 76)) (mCons (mC (.int 69)) mNil))))) (mCall m__law_fixed (mCons (mVar 1) (mCons (mC (.int 6)) mNil)))) (mList false (mCons (mBin gMod (mVar 0) (mC (.int 2))) mNil))) (mCall m__law_fixed (mCons (mBin gIx (mVar 2) (mC (.int 2))) (mCons (mC (.int 4)) mNil)))) (mCall m__law_fixed (mCons (mBin gIx (mVar 2) (mC (.int 3))) (mCons (mC (.int 4)) mNil)))))
  (mSeq (mSet 4 (mBin (gAdd false) (mVar 4) (mLc false [7] (pt1 7) (iRng1M (mCons (mC (.int 13)) mNil)) mYes (mC (.int 0)))))
  (mSeq (mIf (mOr (mTst (mBin (gEq true) (mVar 3) (mVar 4))) (mOr (mTst (mBin (gEq true) (mCall m_read_tail (mCons (mCallB (gListOf false) (mCons (mVar 3) mNil)) mNil)) (mVar 2))) (mTst (mBin (gIs true) (mCall m_read_tail (mCons (mC .non) mNil)) (mC .non)))))
  (mRet (mC (.bl false)))
  mSkip)
  (mSeq (mFor (iListM (mList false (mCons (mC (.int 0)) (mCons (mC (.int 1)) (mCons (mC (.int 2)) (mCons (mC (.int 3)) (mCons (mC (.int 19)) (mCons (mC (.int 25)) (mCons (mC (.int 31)) mNil))))))))) (kName 5)
  (mTrunc (mSeq (mSet 6 (mCallB (gListOf true) (mCons (mVar 3) mNil)))
  (mSeq (mAsg (mBin gMod (mBin (gAdd false) (mBin (gAdd false) (mBin gIx (mVar 6) (mVar 5)) (mC (.int 1))) (mBin gMod (mVar 0) (mC (.int 255)))) (mC (.int 256))) (kSub (mVar 6) (mVar 5)))
  (mIf (mTst (mBin (gIs true) (mCall m_read_tail (mCons (mVar 6) mNil)) (mC .non)))
  (mRet (mC (.bl false)))
  mSkip)))))
  (mSeq (mSet 6 (mCallB (gListOf true) (mCons (mVar 3) mNil)))
  (mSeq (mAsg (mBin (gAdd false) (mC (.int 2)) (mBin gMod (mVar 0) (mC (.int 254)))) (kSub (mVar 6) (mC (.int 10))))
  (mRet (mAndV (mBin (gIs false) (mCall m_read_tail (mCons (mVar 6) mNil)) (mC .non)) (mBin (gIs false) (mCall m_read_tail (mCons (mLc false [7] (pt1 7) (iRng1M (mCons (mC (.int 32)) mNil)) mYes (mC (.int 0))) mNil)) (mC .non)))))))))))))
noncomputable def m__law_tails : MF := mF 1 8 2 b__law_tails
theorem has__law_tails (T : Txt K mg) : Rw.Has P w K mg base (L2.CX P w) 4 "_law_tails" ["_law_number"] (spM ⟨K, mg⟩ m__law_tails) := by
  have h__law_fixed := has__law_fixed (P := P) (w := w) (base := base) T
  have h_read_tail := has_read_tail (P := P) (w := w) (base := base) T
  have h_tail := has_tail (P := P) (w := w) (base := base) T
  exact def_has (m := b__law_tails) 1 8 2 T._law_tails sc__law_tails rfl rfl (fun f cdv A outer s H E hr tk => (s_cons (s_set (j := 1) sc__law_tails.nd rfl (by first | exact Or.inl rfl | exact Or.inr rfl) (e_mul false (e_var (i := 0)) (e_var (i := 0))))
  (s_cons (s_set (j := 2) sc__law_tails.nd rfl (by first | exact Or.inl rfl | exact Or.inr rfl) (e_tup (a_cons (e_var (i := 1)) (a_cons (e_mod (e_var (i := 0)) e_int) (a_cons (e_mod (e_fdiv (e_var (i := 0)) e_int) e_int) (a_cons (e_mod (e_fdiv (e_var (i := 0)) e_int) e_int) a_nil))))))
  (s_cons (s_set (j := 3) sc__law_tails.nd rfl (by first | exact Or.inl rfl | exact Or.inr rfl) (e_call h_tail (hr.mono (by decide)) tk (a_cons (e_ix hr (e_var (i := 2)) e_int) (a_cons (e_ix hr (e_var (i := 2)) e_int) (a_cons (e_ix hr (e_var (i := 2)) e_int) (a_cons (e_ix hr (e_var (i := 2)) e_int) a_nil))))))
  (s_cons (s_set (j := 4) sc__law_tails.nd rfl (by first | exact Or.inl rfl | exact Or.inr rfl) (e_add false (e_add false (e_add false (e_add false (e_list false (a_cons e_int (a_cons e_int (a_cons e_int (a_cons e_int a_nil))))) (e_call h__law_fixed (hr.mono (by decide)) tk (a_cons (e_var (i := 1)) (a_cons e_int a_nil)))) (e_list false (a_cons (e_mod (e_var (i := 0)) e_int) a_nil))) (e_call h__law_fixed (hr.mono (by decide)) tk (a_cons (e_ix hr (e_var (i := 2)) e_int) (a_cons e_int a_nil)))) (e_call h__law_fixed (hr.mono (by decide)) tk (a_cons (e_ix hr (e_var (i := 2)) e_int) (a_cons e_int a_nil)))))
  (s_cons (s_set (j := 4) sc__law_tails.nd rfl (by first | exact Or.inl rfl | exact Or.inr rfl) (e_add false (e_var (i := 4)) (e_lc (own := [("_law_k", 7)]) false (pt1_ok 7) rfl sc__law_tails.nd (i_range1 T.b_range (a_cons e_int a_nil)) (blkOk_by (own := [("_law_k", 7)]) (N := ["_law_number", "_law_commits", "_law_told", "_law_sector", "_law_due", "_law_place", "_law_changed", "_law_k"]) (sc := defScope (topS 18)) (by decide +kernel)) (fun _ _ _ _ _ => (pg_name (i := 7) sc__law_tails.nd rfl (by first | exact Or.inl rfl | exact Or.inr rfl))) (fun _ _ _ _ _ => ts_nil) (fun _ _ _ _ _ => e_int))))
  (s_cons (s_if (t_bool (w_or (t_ne hr (e_var (i := 3)) (e_var (i := 4))) (w_or (t_ne hr (e_call h_read_tail (hr.mono (by decide)) tk (a_cons (e_listc false (a_cons (e_var (i := 3)) a_nil) T.b_list) a_nil)) (e_var (i := 2))) (w_or1 (t_isnot (e_call h_read_tail (hr.mono (by decide)) tk (a_cons e_non a_nil)) e_non)))))
  (s_one (s_ret e_bl))
  s_nil)
  (s_cons (s_for (passes_of rfl) rfl (i_list (e_list false (a_cons e_int (a_cons e_int (a_cons e_int (a_cons e_int (a_cons e_int (a_cons e_int (a_cons e_int a_nil))))))))) (g_name (j := 5) sc__law_tails.nd rfl (by first | exact Or.inl rfl | exact Or.inr rfl))
  (s_trunc (s_cons (s_set (j := 6) sc__law_tails.nd rfl (by first | exact Or.inl rfl | exact Or.inr rfl) (e_listc true (a_cons (e_var (i := 3)) a_nil) T.b_list))
  (s_cons (s_asg (e_mod (e_add false (e_add false (e_ix hr (e_var (i := 6)) (e_var (i := 5))) e_int) (e_mod (e_var (i := 0)) e_int)) e_int) (g_sub (W := fun cls d _ H => E cls d H) hr (e_var (i := 6)) (e_var (i := 5))))
  (s_one (s_if (t_isnot (e_call h_read_tail (hr.mono (by decide)) tk (a_cons (e_var (i := 6)) a_nil)) e_non)
  (s_one (s_ret e_bl))
  s_nil))))))
  (s_cons (s_set (j := 6) sc__law_tails.nd rfl (by first | exact Or.inl rfl | exact Or.inr rfl) (e_listc true (a_cons (e_var (i := 3)) a_nil) T.b_list))
  (s_cons (s_asg (e_add false e_int (e_mod (e_var (i := 0)) e_int)) (g_sub (W := fun cls d _ H => E cls d H) hr (e_var (i := 6)) e_int))
  (s_one (s_ret (e_and (e_is (e_call h_read_tail (hr.mono (by decide)) tk (a_cons (e_var (i := 6)) a_nil)) e_non) (e_one (e_is (e_call h_read_tail (hr.mono (by decide)) tk (a_cons (e_lc (own := [("_law_k", 7)]) false (pt1_ok 7) rfl sc__law_tails.nd (i_range1 T.b_range (a_cons e_int a_nil)) (blkOk_by (own := [("_law_k", 7)]) (N := ["_law_number", "_law_commits", "_law_told", "_law_sector", "_law_due", "_law_place", "_law_changed", "_law_k"]) (sc := defScope (topS 18)) (by decide +kernel)) (fun _ _ _ _ _ => (pg_name (i := 7) sc__law_tails.nd rfl (by first | exact Or.inl rfl | exact Or.inr rfl))) (fun _ _ _ _ _ => ts_nil) (fun _ _ _ _ _ => e_int)) a_nil)) e_non)))))))))))))))
noncomputable def b__law_parts : MS := (mSeq (mSet 1 (mBin gFdiv (mBin gSub (mVar 0) (mC (.int 2))) (mC (.int 4))))
  (mSeq (mIf (mOr (mTst (mBin (gEq true) (mCall m_area_size (mCons (mVar 0) mNil)) (mVar 1))) (mOr (mTst (mBin (gEq true) (mCall m_area_start (mCons (mVar 0) (mCons (mC (.int 0)) mNil))) (mC (.int 2)))) (mTst (mBin (gEq true) (mCall m_area_start (mCons (mVar 0) (mCons (mC (.int 1)) mNil))) (mBin (gAdd false) (mC (.int 2)) (mVar 1))))))
  (mRet (mC (.bl false)))
  mSkip)
  (mRet (mAndV (mBin (gEq false) (mCall m_region_start (mCons (mVar 0) mNil)) (mBin (gAdd false) (mC (.int 2)) (mBin (gMul false) (mC (.int 2)) (mVar 1)))) (mBin (gEq false) (mCall m_stripe_count (mCons (mVar 0) mNil)) (mBin gSub (mBin gSub (mVar 0) (mC (.int 2))) (mBin (gMul false) (mC (.int 2)) (mVar 1))))))))
noncomputable def m__law_parts : MF := mF 1 2 0 b__law_parts
theorem has__law_parts (T : Txt K mg) : Rw.Has P w K mg base (L2.CX P w) 4 "_law_parts" ["_law_sectors"] (spM ⟨K, mg⟩ m__law_parts) := by
  have h_area_size := has_area_size (P := P) (w := w) (base := base) T
  have h_area_start := has_area_start (P := P) (w := w) (base := base) T
  have h_region_start := has_region_start (P := P) (w := w) (base := base) T
  have h_stripe_count := has_stripe_count (P := P) (w := w) (base := base) T
  exact def_has (m := b__law_parts) 1 2 0 T._law_parts sc__law_parts rfl rfl (fun f cdv A outer s H E hr tk => (s_cons (s_set (j := 1) sc__law_parts.nd rfl (by first | exact Or.inl rfl | exact Or.inr rfl) (e_fdiv (e_sub (e_var (i := 0)) e_int) e_int))
  (s_cons (s_if (t_bool (w_or (t_ne hr (e_call h_area_size (hr.mono (by decide)) tk (a_cons (e_var (i := 0)) a_nil)) (e_var (i := 1))) (w_or (t_ne hr (e_call h_area_start (hr.mono (by decide)) tk (a_cons (e_var (i := 0)) (a_cons e_int a_nil))) e_int) (w_or1 (t_ne hr (e_call h_area_start (hr.mono (by decide)) tk (a_cons (e_var (i := 0)) (a_cons e_int a_nil))) (e_add false e_int (e_var (i := 1))))))))
  (s_one (s_ret e_bl))
  s_nil)
  (s_one (s_ret (e_and (e_eq hr (e_call h_region_start (hr.mono (by decide)) tk (a_cons (e_var (i := 0)) a_nil)) (e_add false e_int (e_mul false e_int (e_var (i := 1))))) (e_one (e_eq hr (e_call h_stripe_count (hr.mono (by decide)) tk (a_cons (e_var (i := 0)) a_nil)) (e_sub (e_sub (e_var (i := 0)) e_int) (e_mul false e_int (e_var (i := 1))))))))))))
noncomputable def b_law : MS := (mSeq (mSet 1 (mBin gMod (mCall m__law_draw (mCons (mVar 0) (mCons (mC (.int 4)) mNil))) (mC (.int 1000000))))
  (mRet (mAndV (mCall m__law_blocks (mCons (mVar 0) mNil)) (mAndV (mCall m__law_tails (mCons (mVar 1) mNil)) (mCall m__law_parts (mCons (mBin (gAdd false) (mC (.int 48)) (mBin gMod (mVar 1) (mC (.int 153)))) mNil))))))
noncomputable def m_law : MF := mF 1 2 0 b_law
theorem has_law (T : Txt K mg) : Rw.Has P w K mg base (L2.CX P w) 5 "law" ["_law_script"] (spM ⟨K, mg⟩ m_law) := by
  have h__law_blocks := has__law_blocks (P := P) (w := w) (base := base) T
  have h__law_draw := has__law_draw (P := P) (w := w) (base := base) T
  have h__law_parts := has__law_parts (P := P) (w := w) (base := base) T
  have h__law_tails := has__law_tails (P := P) (w := w) (base := base) T
  exact def_has (m := b_law) 1 2 0 T.law sc_law rfl rfl (fun f cdv A outer s H E hr tk => (s_cons (s_set (j := 1) sc_law.nd rfl (by first | exact Or.inl rfl | exact Or.inr rfl) (e_mod (e_call h__law_draw (hr.mono (by decide)) tk (a_cons (e_var (i := 0)) (a_cons e_int a_nil))) e_int))
  (s_one (s_ret (e_and (e_call h__law_blocks (hr.mono (by decide)) tk (a_cons (e_var (i := 0)) a_nil)) (e_and (e_call h__law_tails (hr.mono (by decide)) tk (a_cons (e_var (i := 1)) a_nil)) (e_one (e_call h__law_parts (hr.mono (by decide)) tk (a_cons (e_add false e_int (e_mod (e_var (i := 1)) e_int)) a_nil)))))))))
end
end Lw
namespace Rw
theorem range_map_succ {α : Type} (f : Nat → α) (n : Nat) : (List.range (n + 1)).map f = (List.range n).map f ++ [f n] := by
  rw [List.range_succ, List.map_append, List.map_singleton]
end Rw
/-! ### log blocks as lists of whole numbers -/
namespace Lg
def fxL : Nat → Nat → List Nat
  | 0, _ => []
  | c + 1, n => n % 256 :: fxL c (n / 256)
def fx (n c : Nat) : List Nat := (fxL c n).reverse
def rd (ds : List Nat) : Nat := ds.foldl (fun t b => t * 256 + b) 0
def pad (n : Nat) : Nat := (32 - n % 32) % 32
def whole (ds : List Nat) : List Nat := fx ds.length 4 ++ ds ++ List.replicate (pad (4 + ds.length)) 0
def chunks (ws : List Nat) : List (List Nat) := (List.range (ws.length / 32)).map fun i => (ws.drop (32 * i)).take 32
def logBlock (ds : List Nat) : List (List Nat) := chunks (whole ds)
theorem fxL_len : ∀ c n, (fxL c n).length = c
  | 0, _ => rfl
  | c + 1, n => by rw [fxL, List.length_cons, fxL_len c]
theorem fx_len (n c : Nat) : (fx n c).length = c := by rw [fx, List.length_reverse, fxL_len]
theorem fxL_lt : ∀ c n, ∀ d ∈ fxL c n, d < 256
  | 0, _, d, h => by cases h
  | c + 1, n, d, h => by
    rw [fxL] at h
    rcases List.mem_cons.mp h with rfl | h
    · exact Nat.mod_lt _ (by decide)
    · exact fxL_lt c _ d h
theorem rd_snoc (ds : List Nat) (b : Nat) : rd (ds ++ [b]) = rd ds * 256 + b := by
  unfold rd
  rw [List.foldl_append]
  rfl
theorem rd_fxL : ∀ c n, n < 256 ^ c → rd (fxL c n).reverse = n
  | 0, n, h => by
    have : n = 0 := by simpa using h
    rw [this]
    rfl
  | c + 1, n, h => by
    rw [fxL, List.reverse_cons, rd_snoc, rd_fxL c (n / 256) (by rw [Nat.pow_succ] at h; omega)]
    omega
theorem rd_fx {c n : Nat} (h : n < 256 ^ c) : rd (fx n c) = n := rd_fxL c n h
theorem whole_len (ds : List Nat) : (whole ds).length = 4 + ds.length + pad (4 + ds.length) := by
  unfold whole
  rw [List.length_append, List.length_append, fx_len, List.length_replicate]
theorem whole_mod (ds : List Nat) : (whole ds).length % 32 = 0 := by
  rw [whole_len]
  unfold pad
  omega
theorem chunks_len (ws : List Nat) : (chunks ws).length = ws.length / 32 := by
  unfold chunks
  rw [List.length_map, List.length_range]
theorem chunk_len {ws : List Nat} {c : List Nat} (h : c ∈ chunks ws) : c.length = 32 := by
  unfold chunks at h
  obtain ⟨i, hi, rfl⟩ := List.mem_map.mp h
  have := List.mem_range.mp hi
  rw [List.length_take, List.length_drop]
  omega
theorem chunks_join : ∀ (n : Nat) (ws : List Nat), ws.length = 32 * n → (chunks ws).flatten = ws
  | 0, ws, h => by
    have : ws = [] := List.length_eq_zero_iff.mp (by omega)
    subst this
    rfl
  | n + 1, ws, h => by
    have e : chunks ws = ws.take 32 :: chunks (ws.drop 32) := by
      unfold chunks
      have l : ws.length / 32 = (ws.drop 32).length / 32 + 1 := by rw [List.length_drop]; omega
      rw [l, List.range_succ_eq_map, List.map_cons, List.map_map]
      congr 1
      apply List.map_congr_left
      intro i _
      show (ws.drop (32 * (i + 1))).take 32 = ((ws.drop 32).drop (32 * i)).take 32
      rw [List.drop_drop, show 32 + 32 * i = 32 * (i + 1) by omega]
    rw [e, List.flatten_cons, chunks_join n (ws.drop 32) (by rw [List.length_drop]; omega), List.take_append_drop]
theorem block_join (ds : List Nat) : (logBlock ds).flatten = whole ds :=
  chunks_join ((whole ds).length / 32) _ (by have := whole_mod ds; omega)
theorem block_len (ds : List Nat) : (logBlock ds).length = (4 + ds.length + 31) / 32 := by
  unfold logBlock
  rw [chunks_len, whole_len]
  unfold pad
  omega
theorem const_map (n : Nat) (f : Nat → Nat) (h : ∀ i, f i = 0) : (List.range n).map f = List.replicate n 0 := by
  rw [show f = fun _ => 0 from funext h, List.map_const', List.length_range]
/-- what reading a block gives -/
def readBlock (ss : List (List Nat)) (i : Nat) : Option (List Nat × Nat) :=
  match ss[i]? with
  | none => none
  | some s => if ss.length < i + (4 + rd (s.take 4) + 31) / 32 then none
    else some (((((ss.drop i).take (i + (4 + rd (s.take 4) + 31) / 32 - i)).flatten).drop 4).take (rd (s.take 4)), i + (4 + rd (s.take 4) + 31) / 32)
theorem readBlock_none {ss : List (List Nat)} {i : Nat} (h : ss[i]? = none) : readBlock ss i = none := by
  unfold readBlock
  rw [h]
theorem readBlock_out {ss : List (List Nat)} {i size en : Nat} {s : List Nat} (h : ss[i]? = some s) (hs : rd (s.take 4) = size) (he : i + (4 + size + 31) / 32 = en) (hl : ss.length < en) : readBlock ss i = none := by
  unfold readBlock
  rw [h]
  show (if ss.length < i + (4 + rd (s.take 4) + 31) / 32 then _ else _) = _
  rw [hs, he, if_pos hl]
theorem readBlock_in {ss : List (List Nat)} {i size en : Nat} {s : List Nat} (h : ss[i]? = some s) (hs : rd (s.take 4) = size) (he : i + (4 + size + 31) / 32 = en) (hl : ¬ ss.length < en) :
    readBlock ss i = some (((((ss.drop i).take (en - i)).flatten).drop 4).take size, en) := by
  unfold readBlock
  rw [h]
  show (if ss.length < i + (4 + rd (s.take 4) + 31) / 32 then _ else _) = _
  rw [hs, he, if_neg hl]
theorem flat_len : ∀ {ss : List (List Nat)}, (∀ s ∈ ss, s.length = 32) → ss.flatten.length = 32 * ss.length
  | [], _ => rfl
  | s :: ss, h => by
    rw [List.flatten_cons, List.length_append, List.length_cons, h s List.mem_cons_self, flat_len fun x hx => h x (List.mem_cons_of_mem _ hx)]
    omega
/-- a tail's sector -/
def tailL (c a i n : Nat) : List Nat := [70, 73, 76, 69] ++ fx c 6 ++ [a] ++ fx i 4 ++ fx n 4 ++ List.replicate 13 0
theorem tail_len (c a i n : Nat) : (tailL c a i n).length = 32 := by
  unfold tailL
  simp only [List.length_append, fx_len, List.length_cons, List.length_nil, List.length_replicate]
/-- what a sector tells as a tail -/
def readTail (s : List Nat) : Option (Nat × Nat × Nat × Nat) :=
  let c := rd ((s.drop 4).take 6)
  let a := s.getD 10 0
  let i := rd ((s.drop 11).take 4)
  let n := rd ((s.drop 15).take 4)
  if 1 < a ∨ tailL c a i n ≠ s then none else some (c, a, i, n)
theorem tail_parts (c a i n : Nat) : ((tailL c a i n).drop 4).take 6 = fx c 6 ∧ (tailL c a i n).getD 10 0 = a ∧ ((tailL c a i n).drop 11).take 4 = fx i 4 ∧ ((tailL c a i n).drop 15).take 4 = fx n 4 := by
  have h6 := fx_len c 6
  have h4 := fx_len i 4
  have g4 := fx_len n 4
  obtain ⟨c1, c2, c3, c4, c5, c6, hc⟩ : ∃ c1 c2 c3 c4 c5 c6, fx c 6 = [c1, c2, c3, c4, c5, c6] := by
    match fx c 6, h6 with
    | [a, b, c, d, e, f], _ => exact ⟨a, b, c, d, e, f, rfl⟩
  obtain ⟨i1, i2, i3, i4, hi⟩ : ∃ c1 c2 c3 c4, fx i 4 = [c1, c2, c3, c4] := by
    match fx i 4, h4 with
    | [a, b, c, d], _ => exact ⟨a, b, c, d, rfl⟩
  obtain ⟨n1, n2, n3, n4, hn⟩ : ∃ c1 c2 c3 c4, fx n 4 = [c1, c2, c3, c4] := by
    match fx n 4, g4 with
    | [a, b, c, d], _ => exact ⟨a, b, c, d, rfl⟩
  unfold tailL
  rw [hc, hi, hn]
  exact ⟨rfl, rfl, rfl, rfl⟩
theorem readTail_tail {c a i n : Nat} (hc : c < 256 ^ 6) (ha : a ≤ 1) (hi : i < 256 ^ 4) (hn : n < 256 ^ 4) : readTail (tailL c a i n) = some (c, a, i, n) := by
  obtain ⟨h1, h2, h3, h4⟩ := tail_parts c a i n
  unfold readTail
  rw [h1, h2, h3, h4, rd_fx hc, rd_fx hi, rd_fx hn]
  exact if_neg (by
    rintro (h | h)
    · omega
    · exact h rfl)
end Lg
/-! ### blocks one behind another; tails with a changed byte -/
namespace Lg
theorem block_head (d : List Nat) : (logBlock d)[0]? = some ((whole d).take 32) := by
  have l := whole_len d
  have m := whole_mod d
  unfold logBlock chunks
  rw [List.getElem?_map, List.getElem?_range (by omega)]
  rfl
theorem head_size {d : List Nat} (h : d.length < 256 ^ 4) : rd (((whole d).take 32).take 4) = d.length := by
  rw [List.take_take, show min 4 32 = 4 from rfl]
  unfold whole
  rw [List.append_assoc, List.take_append_of_le_length (by rw [fx_len]; exact Nat.le_refl _), List.take_of_length_le (by rw [fx_len]; exact Nat.le_refl _), rd_fx h]
theorem body (d : List Nat) : ((whole d).drop 4).take d.length = d := by
  unfold whole
  rw [List.append_assoc, List.drop_append_of_le_length (by rw [fx_len]; exact Nat.le_refl _), List.drop_of_length_le (by rw [fx_len]; exact Nat.le_refl _), List.nil_append, List.take_append_of_le_length (Nat.le_refl _), List.take_length]
theorem read_mid (pre post : List (List Nat)) {d : List Nat} (h : d.length < 256 ^ 4) : readBlock (pre ++ logBlock d ++ post) pre.length = some (d, pre.length + (logBlock d).length) := by
  have bl := block_len d
  have hd := block_head d
  have e : (pre ++ logBlock d ++ post)[pre.length]? = some ((whole d).take 32) := by
    rw [List.append_assoc, List.getElem?_append_right (Nat.le_refl _), Nat.sub_self, List.getElem?_append_left (by omega), hd]
  rw [readBlock_in e (head_size h) rfl (by rw [List.length_append, List.length_append]; omega)]
  have : (((pre ++ logBlock d ++ post).drop pre.length).take (pre.length + (4 + d.length + 31) / 32 - pre.length)) = logBlock d := by
    rw [List.append_assoc, List.drop_append_of_le_length (Nat.le_refl _), List.drop_length, List.nil_append, List.take_append_of_le_length (by omega), List.take_of_length_le (by omega)]
  rw [this, block_join, body, bl]
theorem read_cut (pre post : List (List Nat)) {d : List Nat} (h : d.length < 256 ^ 4) : readBlock ((pre ++ logBlock d ++ post).take (pre.length + (logBlock d).length - 1)) pre.length = none := by
  have bl := block_len d
  have hd := block_head d
  have hl : ((pre ++ logBlock d ++ post).take (pre.length + (logBlock d).length - 1)).length = pre.length + (logBlock d).length - 1 := by
    rw [List.length_take, List.length_append, List.length_append]
    omega
  by_cases h1 : (logBlock d).length = 1
  · exact readBlock_none (List.getElem?_eq_none (by omega))
  · have e : ((pre ++ logBlock d ++ post).take (pre.length + (logBlock d).length - 1))[pre.length]? = some ((whole d).take 32) := by
      rw [List.getElem?_take_of_lt (by omega), List.append_assoc, List.getElem?_append_right (Nat.le_refl _), Nat.sub_self, List.getElem?_append_left (by omega), hd]
    exact readBlock_out e (head_size h) rfl (by omega)
def cat (ds : List (List Nat)) : List (List Nat) := (ds.map logBlock).flatten
theorem cat_snoc (ds : List (List Nat)) (d : List Nat) : cat (ds ++ [d]) = cat ds ++ logBlock d := by
  unfold cat
  rw [List.map_append, List.flatten_append]
  simp
theorem cat_split {ds : List (List Nat)} {i : Nat} {d : List Nat} (h : ds[i]? = some d) : cat ds = cat (ds.take i) ++ logBlock d ++ cat (ds.drop (i + 1)) := by
  have e : ds = ds.take i ++ [d] ++ ds.drop (i + 1) := by
    have l : i < ds.length := (List.getElem?_eq_some_iff.mp h).1
    have hd : ds.drop i = d :: ds.drop (i + 1) := by
      rw [List.drop_eq_getElem_cons l]
      rw [List.getElem?_eq_getElem l] at h
      rw [Option.some.inj h]
    rw [List.append_assoc, List.singleton_append, ← hd, List.take_append_drop]
  have c : cat ds = cat (ds.take i ++ [d] ++ ds.drop (i + 1)) := by rw [← e]
  rw [c]
  unfold cat
  rw [List.map_append, List.flatten_append, List.map_append, List.flatten_append]
  simp
def start (ds : List (List Nat)) (i : Nat) : Nat := (cat (ds.take i)).length
theorem start_next {ds : List (List Nat)} {i : Nat} {d : List Nat} (h : ds[i]? = some d) : start ds (i + 1) = start ds i + (logBlock d).length := by
  unfold start
  rw [List.take_add_one, h, Option.toList_some, cat_snoc, List.length_append]
theorem read_here {ds : List (List Nat)} {i : Nat} {d : List Nat} (h : ds[i]? = some d) (hl : d.length < 256 ^ 4) : readBlock (cat ds) (start ds i) = some (d, start ds (i + 1)) := by
  rw [start_next h, cat_split h]
  exact read_mid _ _ hl
theorem read_short {ds : List (List Nat)} {i : Nat} {d : List Nat} (h : ds[i]? = some d) (hl : d.length < 256 ^ 4) : readBlock ((cat ds).take (start ds (i + 1) - 1)) (start ds i) = none := by
  rw [start_next h, cat_split h]
  exact read_cut _ _ hl
theorem start_all (ds : List (List Nat)) : start ds ds.length = (cat ds).length := by
  unfold start
  rw [List.take_length]
theorem start_pos {ds : List (List Nat)} {i : Nat} (h : i < ds.length) : 1 ≤ start ds (i + 1) := by
  rw [start_next (List.getElem?_eq_getElem h)]
  have := block_len ds[i]
  omega
theorem starts_snoc (ds : List (List Nat)) (d : List Nat) : (List.range ds.length).map (start ds) ++ [(cat ds).length] = (List.range (ds ++ [d]).length).map (start (ds ++ [d])) := by
  rw [List.length_append, List.length_singleton, Rw.range_map_succ]
  congr 1
  · apply List.map_congr_left
    intro i hi
    have := List.mem_range.mp hi
    unfold start
    rw [List.take_append_of_le_length (by omega)]
  · unfold start
    rw [List.take_append_of_le_length (Nat.le_refl _), List.take_length]
theorem starts_all (ds : List (List Nat)) : (List.range ds.length).map (start ds) ++ [(cat ds).length] = (List.range (ds.length + 1)).map (start ds) := by
  rw [Rw.range_map_succ, start_all]
theorem cat_sec {ds : List (List Nat)} (h : ∀ d ∈ ds, ∀ b ∈ d, b < 256) : ∀ s ∈ cat ds, s.length = 32 ∧ ∀ b ∈ s, b < 256 := by
  intro s hs
  unfold cat at hs
  obtain ⟨l, hl, hs⟩ := List.mem_flatten.mp hs
  obtain ⟨d, hd, rfl⟩ := List.mem_map.mp hl
  refine ⟨chunk_len hs, fun b hb => ?_⟩
  have hw : b ∈ whole d := by
    rw [← block_join]
    exact List.mem_flatten.mpr ⟨s, hs, hb⟩
  unfold whole at hw
  rcases List.mem_append.mp hw with hw | hw
  · rcases List.mem_append.mp hw with hw | hw
    · exact fxL_lt 4 d.length b (by unfold fx at hw; exact List.mem_reverse.mp hw)
    · exact h d hd b hw
  · have := List.eq_of_mem_replicate hw
    omega
theorem cat_len {ds : List (List Nat)} (h : ∀ d ∈ ds, d.length ≤ 300) : (cat ds).length ≤ 10 * ds.length := by
  induction ds with
  | nil => exact Nat.le_refl _
  | cons d ds ih =>
    have e : cat (d :: ds) = logBlock d ++ cat ds := rfl
    have := ih fun x hx => h x (List.mem_cons_of_mem _ hx)
    have := h d List.mem_cons_self
    rw [e, List.length_append, block_len, List.length_cons]
    omega
/-- the places of a tail that never differ -/
theorem tail_fix (c a i n : Nat) {p : Nat} (h : p = 0 ∨ p = 1 ∨ p = 2 ∨ p = 3 ∨ p = 19 ∨ p = 25 ∨ p = 31) : (tailL c a i n)[p]? = (tailL 0 0 0 0)[p]? := by
  have h6 := fx_len c 6
  have h4 := fx_len i 4
  have g4 := fx_len n 4
  obtain ⟨c1, c2, c3, c4, c5, c6, hc⟩ : ∃ c1 c2 c3 c4 c5 c6, fx c 6 = [c1, c2, c3, c4, c5, c6] := by
    match fx c 6, h6 with
    | [a, b, c, d, e, f], _ => exact ⟨a, b, c, d, e, f, rfl⟩
  obtain ⟨i1, i2, i3, i4, hi⟩ : ∃ c1 c2 c3 c4, fx i 4 = [c1, c2, c3, c4] := by
    match fx i 4, h4 with
    | [a, b, c, d], _ => exact ⟨a, b, c, d, rfl⟩
  obtain ⟨n1, n2, n3, n4, hn⟩ : ∃ c1 c2 c3 c4, fx n 4 = [c1, c2, c3, c4] := by
    match fx n 4, g4 with
    | [a, b, c, d], _ => exact ⟨a, b, c, d, rfl⟩
  unfold tailL
  rw [hc, hi, hn]
  rcases h with rfl | rfl | rfl | rfl | rfl | rfl | rfl <;> rfl
theorem readTail_bad {s : List Nat} {p : Nat} (h : p = 0 ∨ p = 1 ∨ p = 2 ∨ p = 3 ∨ p = 19 ∨ p = 25 ∨ p = 31) (hs : s[p]? ≠ (tailL 0 0 0 0)[p]?) : readTail s = none := by
  unfold readTail
  exact if_pos (.inr fun z => hs (by rw [← z]; exact tail_fix _ _ _ _ h))
theorem readTail_area {s : List Nat} {a : Nat} (h : s[10]? = some a) (ha : 1 < a) : readTail s = none := by
  unfold readTail
  have e : s.getD 10 0 = a := by rw [List.getD_eq_getElem?_getD, h]; rfl
  exact if_pos (.inl (by rw [e]; exact ha))
theorem fix_val {p : Nat} (h : p = 0 ∨ p = 1 ∨ p = 2 ∨ p = 3 ∨ p = 19 ∨ p = 25 ∨ p = 31) : ∃ b, b < 256 ∧ (tailL 0 0 0 0)[p]? = some b := by
  rcases h with rfl | rfl | rfl | rfl | rfl | rfl | rfl
  · exact ⟨70, by decide, rfl⟩
  · exact ⟨73, by decide, rfl⟩
  · exact ⟨76, by decide, rfl⟩
  · exact ⟨69, by decide, rfl⟩
  · exact ⟨0, by decide, rfl⟩
  · exact ⟨0, by decide, rfl⟩
  · exact ⟨0, by decide, rfl⟩
end Lg
namespace Lw
open PySem PySem.Spec PyProof.Rows L2 Am
section
variable {P : Program} {w : World} {K : PySem.W.Frag} {mg : Str → Option Value} {base : Heap}
open Lg
abbrev iD (n : Nat) : D := .int (n : Int)
abbrev dl (ns : List Nat) : D := .list (ns.map iD)
theorem x_write_fixed (n c : Nat) (hc : c ≤ 1000) (st : Store) : m_write_fixed [.d (iD n), .d (iD c)] st = .ok (.d (dl (fx n c))) st := by
  unfold m_write_fixed b_write_fixed
  walk_at "ev"
  rw [Int.toNat_natCast]
  generalize ho : forA _ _ _ _ _ _ = o
  obtain ⟨σ', st', rfl, m, out, y, rfl, rfl, hl, hf⟩ := forR_nx ho
    (fun i σ s => ∃ (m : Nat) (out : List Nat) (y : Option A), σ = [some (.d (iD m)), some (.d (iD c)), some (.c st.length), y] ∧ s = st ++ [.lst ((out.map iD).map A.d)] ∧ out.length = i ∧ out ++ fxL (c - i) m = fxL c n)
    ⟨n, [], none, rfl, rfl, rfl, rfl⟩ (fun _ _ _ _ _ => trivial) (by
      rintro i σ s hi ⟨m, out, y, rfl, rfl, hl, hf⟩
      obtain ⟨j, hj⟩ : ∃ j, c - i = j + 1 := ⟨c - i - 1, by omega⟩
      walk_at "ev"
      refine ⟨m / 256, out ++ [m % 256], _, rfl, by rw [List.map_append, List.map_append]; rfl, by rw [List.length_append, hl]; rfl, ?_⟩
      rw [hj, fxL] at hf
      rw [show c - (i + 1) = j by omega, List.append_assoc]
      exact hf)
  rw [Nat.sub_self, fxL, List.append_nil] at hf
  walk_at "ev"
  rw [← List.map_reverse, ← List.map_reverse]
  walk_at "ev"
  rw [hf]; rfl
theorem dl_get {ns : List Nat} {i : Nat} {x : A} (h : ((ns.map iD).map A.d)[i]? = some x) : ∃ n, ns[i]? = some n ∧ x = .d (iD n) := by
  rw [List.getElem?_map, List.getElem?_map] at h
  cases hn : ns[i]? with
  | none => rw [hn] at h; cases h
  | some n => rw [hn] at h; cases h; exact ⟨n, rfl, rfl⟩
theorem take_succ_get {α : Type} {xs : List α} {i : Nat} {x : α} (h : xs[i]? = some x) : xs.take (i + 1) = xs.take i ++ [x] := by
  rw [List.take_add_one, h]; rfl
theorem x_read_fixed (ns : List Nat) (st : Store) : m_read_fixed [.d (dl ns)] st = .ok (.d (iD (rd ns))) st := by
  unfold m_read_fixed b_read_fixed
  walk_at "ev"
  generalize ho : forA _ _ _ _ _ _ = o
  obtain ⟨σ', st', rfl, y, rfl, rfl⟩ := forL_nx ho (fun i σ s => ∃ y : Option A, σ = [some (.d (dl ns)), some (.d (iD (rd (ns.take i)))), y] ∧ s = st)
    ⟨none, rfl, rfl⟩ (fun _ _ _ _ _ => trivial) (by
      rintro i x σ s hx ⟨y, rfl, rfl⟩
      obtain ⟨n, hn, rfl⟩ := dl_get hx
      walk_at "ev"
      refine ⟨some (.d (iD n)), ?_, trivial⟩
      rw [take_succ_get hn, rd_snoc]
      rfl)
  walk_at "ev"
  rw [List.length_map, List.length_map, List.take_length]
end
end Lw
namespace Lw
open PySem PySem.Spec PyProof.Rows L2 Am
section
variable {P : Program} {w : World} {K : PySem.W.Frag} {mg : Str → Option Value} {base : Heap}
open Lg
theorem dl_app (xs ys : List Nat) : xs.map iD ++ ys.map iD = (xs ++ ys).map iD := (List.map_append ..).symm
theorem zeros (n : Nat) : (List.range n).map (fun _ => iD 0) = (List.replicate n 0).map iD := by
  rw [List.map_const', List.length_range, List.map_replicate]
theorem cut_nn {α : Type} (xs : List α) (a b : Nat) : cutA xs (some (a : Int)) (some (b : Int)) = (xs.drop a).take (b - a) := by
  unfold cutA
  rw [HT.sIx_nat, HT.sIx_nat]
  by_cases h : a ≤ xs.length
  · rw [Nat.min_eq_left h]
    by_cases h2 : b ≤ xs.length
    · rw [Nat.min_eq_left h2]
    · rw [Nat.min_eq_right (show xs.length ≤ b by omega), List.take_of_length_le (i := xs.length - a) (by rw [List.length_drop]; omega), List.take_of_length_le (i := b - a) (by rw [List.length_drop]; omega)]
  · rw [Nat.min_eq_right (show xs.length ≤ a by omega), List.drop_of_length_le (Nat.le_refl xs.length), List.drop_of_length_le (show xs.length ≤ a by omega), List.take_nil, List.take_nil]
theorem sIx_0 (n : Nat) : HT.sIx n 0 (some 0) = 0 := by
  have := HT.sIx_nat n 0 0
  rw [Nat.zero_min] at this
  exact this
theorem cut_0n {α : Type} (xs : List α) (b : Nat) : cutA xs none (some (b : Int)) = xs.take b := by
  have := cut_nn xs 0 b
  rw [List.drop_zero, Nat.sub_zero] at this
  rw [← this]
  unfold cutA
  rw [HT.sIx_none]
  show _ = List.take (_ - HT.sIx xs.length 0 (some 0)) (List.drop (HT.sIx xs.length 0 (some 0)) xs)
  rw [sIx_0]
theorem cut_n0 {α : Type} (xs : List α) (a : Nat) : cutA xs (some (a : Int)) none = xs.drop a := by
  unfold cutA
  rw [HT.sIx_none, HT.sIx_nat]
  by_cases h : a ≤ xs.length
  · rw [Nat.min_eq_left h, List.take_of_length_le (by rw [List.length_drop]; omega)]
  · rw [Nat.min_eq_right (show xs.length ≤ a by omega), List.drop_of_length_le (Nat.le_refl xs.length), List.drop_of_length_le (show xs.length ≤ a by omega), List.take_nil]
theorem cut_map {α β : Type} (f : α → β) (xs : List α) (l h : Option Int) : cutA (xs.map f) l h = (cutA xs l h).map f := by
  unfold cutA
  rw [List.length_map, ← List.map_drop, ← List.map_take]
abbrev dll (ss : List (List Nat)) : D := .list (ss.map dl)
theorem rgc_up {L c n : Nat} (hc : 0 < c) (hc2 : c ≤ 1000000) (h : L = c * n) (hl : L ≤ 1000000000) : RgC 0 (L : Int) (c : Int) n := by
  have e : Builtin.Range.rangeSize 0 (L : Int) (c : Int) = (n : Int) := by
    unfold Builtin.Range.rangeSize
    rw [if_pos (by omega)]
    by_cases h0 : (0 : Int) < L
    · rw [if_pos h0]
      have hn : 0 < n := Nat.pos_of_ne_zero fun z => by rw [z, Nat.mul_zero] at h; omega
      obtain ⟨m, rfl⟩ : ∃ m, n = m + 1 := ⟨n - 1, by omega⟩
      have q : ((L : Int) - 0 - 1) / (c : Int) = (m : Int) := by
        have e1 : ((L : Int) - 0 - 1) = ((L - 1 : Nat) : Int) := by omega
        rw [e1]
        have e2 : (L - 1) / c = m := by
          rw [h, Nat.mul_succ]
          apply Nat.div_eq_of_lt_le
          · rw [Nat.mul_comm]; omega
          · rw [Nat.mul_comm c m, Nat.succ_mul]; omega
        rw [← e2]
        rfl
      rw [q]
      omega
    · rw [if_neg h0]
      have : n = 0 := by
        cases n with
        | zero => rfl
        | succ m => rw [Nat.mul_succ] at h; omega
      omega
  have hn : n ≤ 1000000000 := by
    have : n ≤ c * n := Nat.le_mul_of_pos_left n hc
    omega
  refine ⟨by omega, by omega, ?_, e⟩
  unfold Builtin.Range.small
  rw [e]
  simp only [Builtin.Range.rangeFitsLong, Bool.and_eq_true, Bool.or_eq_true, decide_eq_true_eq, beq_iff_eq]
  refine ⟨⟨⟨⟨⟨by omega, by omega⟩, ⟨by omega, by omega⟩⟩, ⟨by omega, by omega⟩⟩, ⟨by omega, by omega⟩⟩, .inr ?_⟩
  rw [if_pos (by omega)]
  simp only [Bool.and_eq_true, decide_eq_true_eq]
  omega
theorem x_log_block (ns : List Nat) (hl : ns.length ≤ 1000000) (st : Store) : m_log_block [.d (dl ns)] st = .ok (.d (dll (logBlock ns))) st := by
  unfold m_log_block b_log_block
  walk_at "ev"
  have e1 : m_write_fixed [.d (.int (ns.map iD).length), .d (.int 4)] st = .ok (.d (dl (fx ns.length 4))) st := by rw [List.length_map]; exact x_write_fixed ns.length 4 (by decide) st
  rw [e1]
  have f4 := fx_len ns.length 4
  walk_at "ev"
  have pd : pad (4 + ns.length) < 32 := by unfold pad; omega
  rw [mLc_range (j := 1) (lo := 0) (s := 1) (n := pad (4 + ns.length)) (st1 := st ++ [.lst ((fx ns.length 4).map iD ++ ns.map iD |>.map A.d)]) (fun _ => iD 0) (by
    walk_at "ev"
    rw [show (-(((((fx ns.length 4).map iD ++ ns.map iD).map A.d).length : Nat) : Int) % 32).toNat = pad (4 + ns.length) by
      rw [List.length_map, List.length_append, List.length_map, List.length_map, f4]
      unfold pad
      omega]) (by unfold SZ; omega) (fun _ _ _ => rfl)]
  walk_at "ev"
  have ew : List.map A.d (List.map iD (fx ns.length 4) ++ List.map iD ns) ++ List.map A.d (List.map (fun x => iD 0) (List.range (pad (4 + ns.length)))) = ((whole ns).map iD).map A.d := by
    rw [zeros]
    unfold whole
    simp only [List.map_append]
  rw [ew]
  have wl := whole_len ns
  have wm := whole_mod ns
  have hw : (whole ns).length = 32 * ((whole ns).length / 32) := by omega
  have rg := rgc_up (L := (whole ns).length) (c := 32) (by decide) (by decide) hw (by omega)
  rw [mLc_range (j := 2) (lo := 0) (s := 32) (n := (whole ns).length / 32) (st1 := st ++ [.lst (((whole ns).map iD).map A.d)]) (fun i => dl (((whole ns).drop (32 * i)).take 32)) (by
    unfold iRng3M
    walk_at "ev"
    rw [List.length_map, List.length_map, need_pos ⟨_, rg⟩, show Builtin.Range.rangeSize 0 ((whole ns).length : Int) 32 = _ from rg.2.2.2]
    rfl) (by unfold SZ; omega) (fun i hi ac => by
    unfold wipeA wipeA
    walk_at "ev"
    rw [show (0 + (i : Int) * 32) = ((32 * i : Nat) : Int) by omega, show (((32 * i : Nat) : Int) + 32) = ((32 * i + 32 : Nat) : Int) by omega, cut_nn, show 32 * i + 32 - 32 * i = 32 by omega, ← List.map_drop, ← List.map_take, ← List.map_drop, ← List.map_take]
    walk_at "ev")]
  walk_at "ev"
  unfold dll logBlock chunks
  rw [List.map_map]
  rfl
theorem gIx_nat (st : Store) (a : List D) (i : Nat) {x : D} (h : a[i]? = some x) : gIx (.d (.list a)) (.d (.int (i : Nat))) st = .ok (.d x) st := by
  rw [gIx_l]
  have : atI (a.map A.d) ((i : Nat) : Int) = some (A.d x) := atI_nat (by rw [List.getElem?_map, h]; rfl)
  rw [this]
/-- a block that is read, as data -/
def dBlock : Option (List Nat × Nat) → D
  | none => .non
  | some (ds, e) => .tup [dl ds, iD e]
theorem atI_dl {ns : List Nat} {i : Nat} {n : Nat} (h : ns[i]? = some n) : atI ((ns.map iD).map A.d) (i : Int) = some (.d (iD n)) := atI_nat (by rw [List.getElem?_map, List.getElem?_map, h]; rfl)
theorem atI_dll {ss : List (List Nat)} {i : Nat} {s : List Nat} (h : ss[i]? = some s) : atI ((ss.map dl).map A.d) (i : Int) = some (.d (dl s)) := atI_nat (by rw [List.getElem?_map, List.getElem?_map, h]; rfl)
theorem dll_get {ss : List (List Nat)} {i : Nat} {x : A} (h : ((ss.map dl).map A.d)[i]? = some x) : ∃ s, ss[i]? = some s ∧ x = .d (dl s) := by
  rw [List.getElem?_map, List.getElem?_map] at h
  cases hn : ss[i]? with
  | none => rw [hn] at h; cases h
  | some n => rw [hn] at h; cases h; exact ⟨n, rfl, rfl⟩
theorem flat_le {ss : List (List Nat)} {c : Nat} (h : ∀ s ∈ ss, s.length ≤ c) : ss.flatten.length ≤ ss.length * c := by
  induction ss with
  | nil => exact Nat.zero_le _
  | cons s ss ih =>
    have := ih fun x hx => h x (List.mem_cons_of_mem _ hx)
    have := h s List.mem_cons_self
    rw [List.flatten_cons, List.length_append, List.length_cons, Nat.succ_mul]
    omega
theorem x_read_block (ss : List (List Nat)) (i : Nat) (hs : ∀ s ∈ ss, s.length = 32) (hn : ss.length ≤ 100000) (hi : i ≤ 100000) (st : Store) : m_read_block [.d (dll ss), .d (iD i)] st = .ok (.d (dBlock (readBlock ss i))) st := by
  unfold m_read_block b_read_block
  walk_at "ev"
  rw [List.length_map]
  by_cases h1 : ss.length ≤ i
  · rw [readBlock_none (List.getElem?_eq_none h1), ifO_pos (by omega)]
    walk_at "ev"
    rfl
  · rw [ifO_neg (by omega)]
    obtain ⟨s, hss⟩ : ∃ s, ss[i]? = some s := ⟨_, List.getElem?_eq_getElem (by omega)⟩
    walk_at "ev"
    have l0 := hs s (List.mem_of_getElem? hss)
    rw [atI_dll hss]
    walk_at "ev"
    rw [show cutA (s.map iD) none (some (4 : Int)) = _ from cut_0n _ 4, ← List.map_take]
    walk_at "ev"
    rw [x_read_fixed]
    walk_at "ev"
    generalize hsz : rd (s.take 4) = size
    generalize hen : i + (4 + size + 31) / 32 = en
    have he : (i : Int) + (4 + (size : Int) + 32 - 1) / 32 = (en : Int) := by omega
    rw [he]
    rw [List.length_map]
    by_cases h2 : ss.length < en
    · rw [readBlock_out hss hsz hen h2, ifO_pos (by omega)]
      walk_at "ev"
      rfl
    · rw [readBlock_in hss hsz hen h2, ifO_neg (by omega)]
      walk_at "ev"
      rw [cut_nn, ← List.map_drop, ← List.map_take]
      generalize hq : (ss.drop i).take (en - i) = q
      have hq2 : ∀ s ∈ q, s.length ≤ 32 := fun s h => by
        rw [← hq] at h
        exact Nat.le_of_eq (hs s (List.mem_of_mem_drop (List.mem_of_mem_take h)))
      have hq3 : q.length ≤ 100000 := by
        rw [← hq, List.length_take, List.length_drop]
        omega
      walk_at "ev"
      generalize ho : forA _ _ _ _ _ _ = o
      obtain ⟨σ', st', rfl, y, rfl, rfl⟩ := forL_nx ho (fun k σ s => ∃ y : Option A, σ = [some (.d (dll ss)), some (.d (iD i)), some (.d (iD size)), some (.d (iD en)), some (.c st.length), y] ∧ s = st ++ [.lst (((q.take k).flatten.map iD).map A.d)])
        ⟨none, rfl, rfl⟩ (fun _ _ _ _ _ => trivial) (by
          rintro k x σ s hx ⟨y, rfl, rfl⟩
          obtain ⟨z, hz, rfl⟩ := dll_get hx
          have l1 := flat_le (ss := q.take k) (c := 32) fun s h => hq2 s (List.mem_of_mem_take h)
          have l2 : (q.take k).length ≤ 100000 := by rw [List.length_take]; omega
          have l3 := hq2 z (List.mem_of_getElem? hz)
          walk_at "ev"
          refine ⟨some (.d (dl z)), ?_, ?_⟩
          · rfl
          · rw [take_succ_get hz, List.flatten_append, List.map_append, List.map_append]
            simp)
      have lq := flat_le hq2
      rw [List.length_map, List.length_map, List.take_length]
      walk_at "ev"
      rw [show (4 + (size : Int)) = ((4 + size : Nat) : Int) by omega]
      rw [show cutA ((q.flatten.map iD).map A.d) (some (4 : Int)) (some ((4 + size : Nat) : Int)) = _ from cut_nn _ 4 _, ← List.map_drop, ← List.map_take, ← List.map_drop, ← List.map_take, Nat.add_sub_cancel_left]
      walk_at "ev"
      rfl
end
end Lw
namespace Lw
open PySem PySem.Spec PyProof.Rows L2 Am
section
variable {P : Program} {w : World} {K : PySem.W.Frag} {mg : Str → Option Value} {base : Heap}
open Lg
def tup4 (c a i n : Nat) : D := .tup [iD c, iD a, iD i, iD n]
theorem x_tail (c a i n : Nat) (st : Store) : m_tail [.d (iD c), .d (iD a), .d (iD i), .d (iD n)] st = .ok (.d (dl (tailL c a i n))) st := by
  unfold m_tail b_tail
  walk_at "ev"
  rw [show m_write_fixed [.d (iD c), .d (.int 6)] st = _ from x_write_fixed c 6 (by decide) st]
  have f1 := fx_len c 6
  have f2 := fx_len i 4
  have f3 := fx_len n 4
  walk_at "ev"
  rw [show m_write_fixed [.d (iD i), .d (.int 4)] st = _ from x_write_fixed i 4 (by decide) st]
  walk_at "ev"
  rw [show m_write_fixed [.d (iD n), .d (.int 4)] st = _ from x_write_fixed n 4 (by decide) st]
  walk_at "ev"
  generalize hL : (D.int 70 :: D.int 73 :: D.int 76 :: D.int 69 :: (List.map iD (fx c 6) ++ [iD a] ++ List.map iD (fx i 4) ++ List.map iD (fx n 4))) = L
  have hl : L.length = 19 := by
    rw [← hL]
    simp only [List.length_cons, List.length_append, List.length_map, List.length_nil, f1, f2, f3]
  rw [mLc_range (j := 5) (lo := 0) (s := 1) (n := 13) (st1 := st) (fun _ => iD 0) (by
    walk_at "ev"
    rw [hl]
    rfl) (by decide) (fun _ _ _ => rfl)]
  walk_at "ev"
  rw [← hL, zeros]
  unfold tailL dl
  simp only [List.map_append, List.map_cons, List.map_nil, List.cons_append, List.nil_append, List.append_assoc]
  rfl
/-- what a tail tells, as data -/
def dTail : Option (Nat × Nat × Nat × Nat) → D
  | none => .non
  | some (c, a, i, n) => tup4 c a i n
theorem pl_dl {k : Nat} (ns : List Nat) : Pl (k + 1) (dl ns) := fun d hd => by
  obtain ⟨n, _, rfl⟩ := List.mem_map.mp hd
  exact Pl.int _ _
theorem iD_inj {xs ys : List Nat} (h : xs.map iD = ys.map iD) : xs = ys := by
  refine (List.map_inj_right fun x y e => ?_).mp h
  exact Int.ofNat.inj (D.int.inj e)
theorem dl_ne {xs ys : List Nat} (h : xs ≠ ys) : dl xs ≠ dl ys := fun e => h (iD_inj (D.list.inj e))
theorem x_read_tail (s : List Nat) (hl : s.length = 32) (st : Store) : m_read_tail [.d (dl s)] st = .ok (.d (dTail (readTail s))) st := by
  unfold m_read_tail b_read_tail
  walk_at "ev"
  rw [show cutA (s.map iD) (some (4 : Int)) (some 10) = _ from cut_nn _ 4 10, ← List.map_drop, ← List.map_take]
  walk_at "ev"
  rw [x_read_fixed]
  obtain ⟨a, ha⟩ : ∃ a, s[10]? = some a := ⟨_, List.getElem?_eq_getElem (by omega)⟩
  walk_at "ev"
  rw [show atI ((s.map iD).map A.d) (10 : Int) = _ from atI_dl ha]
  walk_at "ev"
  rw [show cutA (s.map iD) (some (11 : Int)) (some 15) = _ from cut_nn _ 11 15, ← List.map_drop, ← List.map_take]
  walk_at "ev"
  rw [x_read_fixed]
  walk_at "ev"
  rw [show cutA (s.map iD) (some (15 : Int)) (some 19) = _ from cut_nn _ 15 19, ← List.map_drop, ← List.map_take]
  walk_at "ev"
  rw [x_read_fixed]
  walk_at "ev"
  have e10 : s.getD 10 0 = a := by rw [List.getD_eq_getElem?_getD, ha]; rfl
  unfold readTail
  rw [e10]
  by_cases h1 : 1 < a
  · rw [decide_eq_true (show (1 : Int) < (a : Int) by omega), if_pos (.inl h1)]
    walk_at "ev"
    rfl
  · rw [decide_eq_false (show ¬ (1 : Int) < (a : Int) by omega)]
    walk_at "ev"
    rw [x_tail]
    walk_at "ev"
    by_cases h2 : tailL (rd ((s.drop 4).take 6)) a (rd ((s.drop 11).take 4)) (rd ((s.drop 15).take 4)) = s
    · rw [gEq_same (n := 1) st (pl_dl _) true (by rw [h2]), if_neg (by rintro (h | h); exact h1 h; exact h h2)]
      walk_at "ev"
      rfl
    · rw [gEq_diff (n := 1) st (pl_dl _) (pl_dl _) true (dl_ne h2), if_pos (.inr h2)]
      walk_at "ev"
      rfl
theorem x_read_tail_none (st : Store) : m_read_tail [.d .non] st = .ok (.d .non) st := by
  unfold m_read_tail b_read_tail
  walk_at "ev"
end
end Lw
namespace Lw
open PySem PySem.Spec PyProof.Rows L2 Am
section
variable {P : Program} {w : World} {K : PySem.W.Frag} {mg : Str → Option Value} {base : Heap}
open Lg
abbrev scrI (ns : List Int) : D := .scr (ns.map D.int)
theorem atI_scr {ns : List Int} {i : Nat} {n : Int} (h : ns[i]? = some n) : atI ((ns.map D.int).map A.d) (i : Int) = some (.d (.int n)) := atI_nat (by rw [List.getElem?_map, List.getElem?_map, h]; rfl)
theorem x_draw (ns : List Int) (k : Nat) (hk : k < 1000000) (hl : ns.length ≤ 63) : ∃ n : Nat, n < 2147483647 ∧ ∀ st, m__law_draw [.d (scrI ns), .d (iD k)] st = .ok (.d (iD n)) st := by
  unfold m__law_draw b__law_draw
  cases ns with
  | nil =>
    refine ⟨k * 5 % 7, by omega, fun st => ?_⟩
    walk_at "ev"
    rfl
  | cons n0 ns' =>
    generalize en : n0 :: ns' = L at *
    have hn : 0 < L.length := by rw [← en]; exact Nat.zero_lt_succ _
    have ht : (!(L.map D.int).isEmpty) = true := by rw [← en]; rfl
    obtain ⟨c, hc⟩ : ∃ c, L[k % L.length]? = some c := ⟨_, List.getElem?_eq_getElem (Nat.mod_lt _ hn)⟩
    have hlen : ((L.map D.int).length : Int) = (L.length : Int) := by rw [List.length_map]
    have hd : 0 < ((L.map D.int).length : Int) ∧ ((L.map D.int).length : Int) < 1073741824 := by omega
    by_cases h : (1000000000000000000 : Int) ≤ c
    · obtain ⟨T, hT⟩ : ∃ T : Nat, (if (60 : Int) < (k : Int) / ((L.map D.int).length : Int) then (60 : Int) else (k : Int) / ((L.map D.int).length : Int)) = (T : Int) := by
        by_cases hh : 60 < (k : Int) / ((L.map D.int).length : Int)
        · exact ⟨60, if_pos hh⟩
        · exact ⟨((k : Int) / ((L.map D.int).length : Int)).toNat, by
            rw [if_neg hh]
            have : 0 ≤ (k : Int) / ((L.map D.int).length : Int) := Int.ediv_nonneg (by omega) (by omega)
            omega⟩
      have hT6 : T ≤ 60 := by
        by_cases hh : 60 < (k : Int) / ((L.map D.int).length : Int)
        · rw [if_pos hh] at hT; omega
        · rw [if_neg hh] at hT; omega
      refine ⟨c.toNat / 100003 ^ T % 100003, by omega, fun st => ?_⟩
      walk_at "ev"
      rw [ht]
      walk_at "ev"
      rw [hlen, show ((k : Int) % (L.length : Int)) = ((k % L.length : Nat) : Int) from rfl, atI_scr hc]
      walk_at "ev"
      rw [ifO_pos h]
      walk_at "ev"
      rw [hT, Int.toNat_natCast]
      generalize ho : forA _ _ _ _ _ _ = o
      obtain ⟨σ', st', rfl, y, rfl, rfl⟩ := forR_nx ho (fun i σ s => ∃ y : Option A, σ = [some (.d (scrI L)), some (.d (iD k)), some (.d (iD (c.toNat / 100003 ^ i))), some (.d (.int ((k : Int) / ((L.map D.int).length : Int)))), y] ∧ s = st)
        ⟨none, by rw [Nat.pow_zero, Nat.div_one, show iD c.toNat = D.int c from congrArg D.int (by omega)], rfl⟩ (fun _ _ _ _ _ => trivial) (by
          rintro i σ s hi ⟨y, rfl, rfl⟩
          walk_at "ev"
          refine ⟨some (.d (.int (0 + (i : Int)))), ?_, trivial⟩
          rw [Nat.pow_succ, ← Nat.div_div_eq_div_mul]
          rfl)
      walk_at "ev"
      rfl
    · refine ⟨((c * 48271 + k * 69621 + 13) % 2147483647 * 16807 % 2147483629).toNat, by generalize (c * 48271 + (k : Int) * 69621 + 13) % 2147483647 * 16807 = X; omega, fun st => ?_⟩
      walk_at "ev"
      rw [ht]
      walk_at "ev"
      rw [hlen, show ((k : Int) % (L.length : Int)) = ((k % L.length : Nat) : Int) from rfl, atI_scr hc]
      walk_at "ev"
      rw [ifO_neg h]
      walk_at "ev"
      have e := Int.toNat_of_nonneg (Int.emod_nonneg ((c * 48271 + (k : Int) * 69621 + 13) % 2147483647 * 16807) (show (2147483629 : Int) ≠ 0 by decide))
      exact congrArg (fun z => Res.ok (A.d (D.int z)) st) e.symm
theorem x_law_fixed (n c : Nat) (hc : c ≤ 1000) (st : Store) : m__law_fixed [.d (iD n), .d (iD c)] st = .ok (.d (dl (fx n c))) st := by
  unfold m__law_fixed b__law_fixed
  walk_at "ev"
  rw [Int.toNat_natCast]
  generalize ho : forA _ _ _ _ _ _ = o
  obtain ⟨σ', st', rfl, m, out, y, rfl, rfl, hl, hf⟩ := forR_nx ho
    (fun i σ s => ∃ (m : Nat) (out : List Nat) (y : Option A), σ = [some (.d (iD m)), some (.d (iD c)), some (.d (dl out)), y] ∧ s = st ∧ out.length = i ∧ out.reverse ++ fxL (c - i) m = fxL c n)
    ⟨n, [], none, rfl, rfl, rfl, rfl⟩ (fun _ _ _ _ _ => trivial) (by
      rintro i σ s hi ⟨m, out, y, rfl, rfl, hl, hf⟩
      obtain ⟨j, hj⟩ : ∃ j, c - i = j + 1 := ⟨c - i - 1, by omega⟩
      walk_at "ev"
      refine ⟨m / 256, m % 256 :: out, _, rfl, trivial, by rw [List.length_cons, hl], ?_⟩
      rw [hj, fxL] at hf
      rw [show c - (i + 1) = j by omega, List.reverse_cons, List.append_assoc]
      exact hf)
  rw [Nat.sub_self, fxL, List.append_nil] at hf
  walk_at "ev"
  rw [fx, ← hf, List.reverse_reverse]
theorem x_area_size (n : Nat) (st : Store) : m_area_size [.d (iD n)] st = .ok (.d (.int (((n : Int) - 2) / 4))) st := by
  unfold m_area_size b_area_size
  walk_at "ev"
theorem x_area_start (n : Nat) (j : Int) (h0 : 0 ≤ j) (h1 : j ≤ 1) (st : Store) : m_area_start [.d (iD n), .d (.int j)] st = .ok (.d (.int (2 + j * (((n : Int) - 2) / 4)))) st := by
  unfold m_area_start b_area_start
  walk_at "ev"
  rw [x_area_size]
  walk_at "ev"
theorem x_region_start (n : Nat) (st : Store) : m_region_start [.d (iD n)] st = .ok (.d (.int (2 + 2 * (((n : Int) - 2) / 4)))) st := by
  unfold m_region_start b_region_start
  walk_at "ev"
  rw [x_area_size]
  walk_at "ev"
theorem x_stripe_count (n : Nat) (st : Store) : m_stripe_count [.d (iD n)] st = .ok (.d (.int (n - (2 + 2 * (((n : Int) - 2) / 4))))) st := by
  unfold m_stripe_count b_stripe_count
  walk_at "ev"
  rw [x_region_start]
  walk_at "ev"
theorem x_law_parts (n : Nat) (st : Store) : m__law_parts [.d (iD n)] st = .ok (.d (.bl true)) st := by
  unfold m__law_parts b__law_parts
  walk_at "ev"
  rw [x_area_size]
  walk_at "ev"
  rw [decide_eq_false (fun h => h rfl)]
  walk_at "ev"
  rw [x_area_start _ _ (by decide) (by decide)]
  walk_at "ev"
  rw [decide_eq_false (fun h => h (by omega))]
  walk_at "ev"
  rw [x_area_start _ _ (by decide) (by decide)]
  walk_at "ev"
  rw [decide_eq_false (fun h => h (by omega))]
  walk_at "ev"
  rw [x_region_start]
  walk_at "ev"
  rw [x_stripe_count]
  walk_at "ev"
  rw [decide_eq_true (by omega)]
def lawData (n : Nat) : List Nat := (List.range (n % 301)).map fun k => (n / (1 + k % 7) + 3 * k) % 256
theorem lawData_len (n : Nat) : (lawData n).length ≤ 300 := by
  unfold lawData
  rw [List.length_map, List.length_range]
  omega
theorem lawData_lt (n : Nat) : ∀ b ∈ lawData n, b < 256 := fun b hb => by
  obtain ⟨k, _, rfl⟩ := List.mem_map.mp hb
  exact Nat.mod_lt _ (by decide)
theorem x_law_data (n : Nat) (st : Store) : m__law_data [.d (iD n)] st = .ok (.d (dl (lawData n))) st := by
  unfold m__law_data b__law_data
  walk_at "ev"
  rw [mLc_range (j := 1) (lo := 0) (s := 1) (n := n % 301) (st1 := st) (fun k => iD ((n / (1 + k % 7) + 3 * k) % 256)) (by
    walk_at "ev"
    rfl) (by unfold SZ; omega) (fun i hi _ => by
    unfold wipeA wipeA
    walk_at "ev"
    rw [show (0 + (i : Int) * 1) = (i : Int) by omega]
    rfl)]
  walk_at "ev"
  unfold dl lawData
  rw [List.map_map]
  rfl
end
end Lw
namespace Lw
open PySem PySem.Spec PyProof.Rows L2 Am
section
variable {P : Program} {w : World} {K : PySem.W.Frag} {mg : Str → Option Value} {base : Heap}
open Lg
theorem x_read_tail_c (s : List Nat) (hl : s.length = 32) (st : Store) : m_read_tail [.c st.length] (st ++ [.lst ((s.map iD).map A.d)]) = .ok (.d (dTail (readTail s))) (st ++ [.lst ((s.map iD).map A.d)]) := by
  unfold m_read_tail b_read_tail
  walk_at "ev"
  rw [show cutA ((s.map iD).map A.d) (some (4 : Int)) (some 10) = _ from cut_nn _ 4 10, ← List.map_drop, ← List.map_take, ← List.map_drop, ← List.map_take]
  walk_at "ev"
  rw [x_read_fixed]
  obtain ⟨a, ha⟩ : ∃ a, s[10]? = some a := ⟨_, List.getElem?_eq_getElem (by omega)⟩
  walk_at "ev"
  rw [show atI ((s.map iD).map A.d) (10 : Int) = _ from atI_dl ha]
  walk_at "ev"
  rw [show cutA ((s.map iD).map A.d) (some (11 : Int)) (some 15) = _ from cut_nn _ 11 15, ← List.map_drop, ← List.map_take, ← List.map_drop, ← List.map_take]
  walk_at "ev"
  rw [x_read_fixed]
  walk_at "ev"
  rw [show cutA ((s.map iD).map A.d) (some (15 : Int)) (some 19) = _ from cut_nn _ 15 19, ← List.map_drop, ← List.map_take, ← List.map_drop, ← List.map_take]
  walk_at "ev"
  rw [x_read_fixed]
  walk_at "ev"
  have e10 : s.getD 10 0 = a := by rw [List.getD_eq_getElem?_getD, ha]; rfl
  unfold readTail
  rw [e10]
  by_cases h1 : 1 < a
  · rw [decide_eq_true (show (1 : Int) < (a : Int) by omega), if_pos (.inl h1)]
    walk_at "ev"
    rfl
  · rw [decide_eq_false (show ¬ (1 : Int) < (a : Int) by omega)]
    walk_at "ev"
    rw [x_tail]
    walk_at "ev"
    rw [gEq_dc _ _ (loc_get0 _ _) (allD_map _)]
    by_cases h2 : tailL (rd ((s.drop 4).take 6)) a (rd ((s.drop 11).take 4)) (rd ((s.drop 15).take 4)) = s
    · rw [gEq_same (n := 1) _ (pl_dl _) true (by rw [h2]), if_neg (by rintro (h | h); exact h1 h; exact h h2)]
      walk_at "ev"
      rfl
    · rw [gEq_diff (n := 1) _ (pl_dl _) (pl_dl _) true (dl_ne h2), if_pos (.inr h2)]
      walk_at "ev"
      rfl
theorem tail_due (c a i n : Nat) : D.list (D.int 70 :: D.int 73 :: D.int 76 :: D.int 69 :: ((fx c 6).map iD ++ [D.int (a : Int)] ++ (fx i 4).map iD ++ (fx n 4).map iD ++ (List.range 13).map (fun _ => iD 0))) = dl (tailL c a i n) := by
  rw [zeros]
  unfold tailL dl
  simp only [List.map_append, List.map_cons, List.map_nil, List.cons_append, List.nil_append, List.append_assoc]
  rfl
theorem pl_tup4 (c a i n : Nat) : Pl 1 (tup4 c a i n) := fun d hd => by
  rcases List.mem_cons.mp hd with rfl | hd
  · exact Pl.int _ _
  rcases List.mem_cons.mp hd with rfl | hd
  · exact Pl.int _ _
  rcases List.mem_cons.mp hd with rfl | hd
  · exact Pl.int _ _
  rcases List.mem_cons.mp hd with rfl | hd
  · exact Pl.int _ _
  · cases hd
theorem changed {s : List Nat} {p b : Nat} (h : p < s.length) : ((s.map iD).map A.d).set p (.d (iD b)) = ((s.set p b).map iD).map A.d := by
  rw [List.map_set, List.map_set]
theorem x_law_tails (n : Nat) (hn : n < 1000000) (st : Store) : m__law_tails [.d (iD n)] st = .ok (.d (.bl true)) st := by
  unfold m__law_tails b__law_tails
  have hn2 : n * n < 1000000000000 := by
    have := Nat.mul_le_mul (show n ≤ 999999 by omega) (show n ≤ 999999 by omega)
    omega
  walk_at "ev"
  rw [show (n : Int) * (n : Int) = ((n * n : Nat) : Int) from rfl, show (n : Int) % 2 = ((n % 2 : Nat) : Int) from rfl, show (n : Int) / 2 % 70000 = ((n / 2 % 70000 : Nat) : Int) from rfl, show (n : Int) / 3 % 70000 = ((n / 3 % 70000 : Nat) : Int) from rfl]
  have hc : ∃ c, n * n = c := ⟨_, rfl⟩
  obtain ⟨c, hc⟩ := hc
  obtain ⟨a, ha⟩ : ∃ c, n % 2 = c := ⟨_, rfl⟩
  obtain ⟨i, hi⟩ : ∃ c, n / 2 % 70000 = c := ⟨_, rfl⟩
  obtain ⟨k, hk⟩ : ∃ c, n / 3 % 70000 = c := ⟨_, rfl⟩
  rw [hc, ha, hi, hk]
  have f1 := fx_len c 6
  have f2 := fx_len i 4
  have f3 := fx_len k 4
  rw [x_tail]
  walk_at "ev"
  rw [show m__law_fixed [.d (iD c), .d (.int 6)] st = _ from x_law_fixed c 6 (by decide) st]
  walk_at "ev"
  rw [show (n : Int) % 2 = ((n % 2 : Nat) : Int) from rfl, ha, show m__law_fixed [.d (iD i), .d (.int 4)] st = _ from x_law_fixed i 4 (by decide) st]
  walk_at "ev"
  rw [show m__law_fixed [.d (iD k), .d (.int 4)] st = _ from x_law_fixed k 4 (by decide) st]
  walk_at "ev"
  rw [mLc_range (j := 7) (lo := 0) (s := 1) (n := 13) (st1 := st) (fun _ => iD 0) (by
    walk_at "ev"
    rfl) (by decide) (fun _ _ _ => rfl)]
  walk_at "ev"
  rw [tail_due, gEq_same (n := 1) _ (pl_dl _) true rfl]
  have tl := tail_len c a i k
  walk_at "ev"
  rw [x_read_tail _ tl, readTail_tail (by omega) (by omega) (by omega) (by omega)]
  walk_at "ev"
  rw [show gEq true (.d (dTail (some (c, a, i, k)))) (.d (.tup [D.int (c : Int), D.int (a : Int), D.int (i : Int), D.int (k : Int)])) st = _ from gEq_same (n := 1) _ (pl_tup4 c a i k) true rfl]
  walk_at "ev"
  rw [x_read_tail_none]
  walk_at "ev"
  generalize ho : forA _ _ _ _ _ _ = o
  obtain ⟨σ', st', rfl, y, rfl, rfl⟩ := forL_nx ho (fun j σ s => ∃ y : Option A, σ = [some (.d (iD n)), some (.d (iD c)), some (.d (tup4 c a i k)), some (.d (dl (tailL c a i k))), some (.d (dl (tailL c a i k))), y, none, none] ∧ s = st)
    ⟨none, rfl, rfl⟩ (fun _ _ _ _ _ => trivial) (by
      rintro j x σ s hx ⟨y, rfl, rfl⟩
      obtain ⟨p, rfl, hp⟩ : ∃ p : Nat, x = .d (iD p) ∧ (p = 0 ∨ p = 1 ∨ p = 2 ∨ p = 3 ∨ p = 19 ∨ p = 25 ∨ p = 31) := by
        have hm := List.mem_of_getElem? hx
        simp only [List.mem_cons, List.mem_nil_iff, or_false] at hm
        rcases hm with rfl | rfl | rfl | rfl | rfl | rfl | rfl
        · exact ⟨0, rfl, by decide⟩
        · exact ⟨1, rfl, by decide⟩
        · exact ⟨2, rfl, by decide⟩
        · exact ⟨3, rfl, by decide⟩
        · exact ⟨19, rfl, by decide⟩
        · exact ⟨25, rfl, by decide⟩
        · exact ⟨31, rfl, by decide⟩
      have hp2 : p < 32 := by omega
      obtain ⟨b, hb, hf⟩ := fix_val hp
      have hg : (tailL c a i k)[p]? = some b := by rw [tail_fix c a i k hp, hf]
      walk_at "ev"
      rw [atI_dl hg]
      walk_at "ev"
      rw [show ((b : Int) + 1 + (n : Int) % 255) % 256 = (((b + 1 + n % 255) % 256 : Nat) : Int) from rfl, sub3_l (loc_get0 _ _) (by rw [List.length_map, List.length_map]; omega), changed (by omega)]
      walk_at "ev"
      rw [x_read_tail_c _ (by rw [List.length_set]; exact tl), readTail_bad hp (by
        rw [List.getElem?_set_self (by omega), hf]
        intro z
        have := Option.some.inj z
        omega)]
      unfold dTail
      walk_at "ev"
      exact ⟨_, rfl, trivial⟩)
  walk_at "ev"
  have ew : sub3 (.c st'.length) (.d (.int 10)) (.d (.int (2 + (n : Int) % 254))) [some (A.d (iD n)), some (A.d (iD c)), some (A.d (tup4 c a i k)), some (A.d (dl (tailL c a i k))),
              some (A.d (dl (tailL c a i k))), y, some (A.c (List.length st')), none] (st' ++ [Cell.lst (List.map A.d (List.map iD (tailL c a i k)))]) = some ([some (A.d (iD n)), some (A.d (iD c)), some (A.d (tup4 c a i k)), some (A.d (dl (tailL c a i k))),
              some (A.d (dl (tailL c a i k))), y, some (A.c (List.length st')), none], st' ++ [Cell.lst (List.map A.d (List.map iD ((tailL c a i k).set 10 (2 + n % 254))))]) := by
    refine (sub3_l (j := 10) (loc_get0 _ _) (by rw [List.length_map, List.length_map]; omega) (.d (iD (2 + n % 254))) _).trans ?_
    rw [changed (by omega)]
    walk_at "ev"
  rw [ew]
  walk_at "ev"
  rw [x_read_tail_c _ (by rw [List.length_set]; exact tl), readTail_area (a := 2 + n % 254) (by rw [List.getElem?_set_self (by omega)]) (by omega)]
  unfold dTail
  walk_at "ev"
  rw [mLc_range (j := 7) (lo := 0) (s := 1) (n := 32) (st1 := st' ++ [Cell.lst (List.map A.d (List.map iD ((tailL c a i k).set 10 (2 + n % 254))))]) (fun _ => iD 0) (by
    walk_at "ev"
    rfl) (by decide) (fun _ _ _ => rfl), zeros]
  obtain ⟨Z, hZ⟩ : ∃ Z, List.replicate 32 (0 : Nat) = Z := ⟨_, rfl⟩
  rw [hZ]
  have zl : Z.length = 32 := by rw [← hZ]; rfl
  walk_at "ev"
  rw [x_read_tail _ zl, readTail_bad (p := 0) (.inl rfl) (by rw [← hZ]; decide)]
  unfold dTail
  walk_at "ev"
end
end Lw
namespace Lw
open PySem PySem.Spec PyProof.Rows L2 Am
section
variable {P : Program} {w : World} {K : PySem.W.Frag} {mg : Str → Option Value} {base : Heap}
open Lg
theorem dll_app (xs ys : List (List Nat)) : D.list (xs.map dl ++ ys.map dl) = dll (xs ++ ys) := by rw [← List.map_append]
theorem pl_blk (d : List Nat) (e : Nat) : Pl 2 (.tup [dl d, iD e]) := fun x hx => by
  rcases List.mem_cons.mp hx with rfl | hx
  · exact pl_dl d
  rcases List.mem_cons.mp hx with rfl | hx
  · exact Pl.int _ _
  · cases hx
theorem x_law_blocks (ns : List Int) (hl : ns.length ≤ 63) (st : Store) : m__law_blocks [.d (scrI ns)] st = .ok (.d (.bl true)) st := by
  have hd : ∃ f : Nat → Nat, ∀ k, k < 3 → ∀ st, m__law_draw [.d (scrI ns), .d (iD k)] st = .ok (.d (iD (f k))) st := ⟨fun k => if h : k < 1000000 then Classical.choose (x_draw ns k h hl) else 0, fun k hk st => by
    have h : k < 1000000 := by omega
    simp only [h, dif_pos]
    exact (Classical.choose_spec (x_draw ns k h hl)).2 st⟩
  obtain ⟨f, hf⟩ := hd
  unfold m__law_blocks b__law_blocks
  walk_at "ev"
  generalize ho : forA _ _ _ _ _ _ = o
  obtain ⟨DS, hDS⟩ : ∃ DS : Nat → List (List Nat), DS = fun i => (List.range i).map fun k => lawData (f k) := ⟨_, rfl⟩
  have DS0 : DS 0 = [] := by rw [hDS]; rfl
  have DSs : ∀ i, DS (i + 1) = DS i ++ [lawData (f i)] := fun i => by rw [hDS]; exact Rw.range_map_succ _ _
  have DSl : ∀ i, (DS i).length = i := fun i => by rw [hDS, List.length_map, List.length_range]
  have DSm : ∀ i, ∀ d ∈ DS i, d.length ≤ 300 := fun i d h => by
    rw [hDS] at h
    obtain ⟨k, _, rfl⟩ := List.mem_map.mp h
    exact lawData_len _
  clear hDS
  obtain ⟨σ', st', rfl, y1, y2, y3, y4, y5, y6, rfl, rfl⟩ := forR_nx ho (fun i σ s => ∃ y1 y2 y3 y4 y5 y6 : Option A,
      σ = [some (.d (scrI ns)), some (.d (dll (cat (DS i)))), some (.c st.length), some (.c (st.length + 1)), y1, y2, y3, y4, y5, y6, none, none] ∧
      s = st ++ [.lst ((((List.range i).map (start (DS i))).map iD).map A.d), .lst (((DS i).map dl).map A.d)])
    ⟨none, none, none, none, none, none, by rw [DS0]; rfl, by rw [DS0]; rfl⟩ (fun _ _ _ _ _ => trivial) (by
      rintro i σ s hi ⟨y1, y2, y3, y4, y5, y6, rfl, rfl⟩
      rw [show (0 : Int) + (i : Int) = (i : Int) by omega]
      have hi : i < 3 := hi
      generalize hs : st ++ [Cell.lst ((((List.range i).map (start (DS i))).map iD).map A.d), Cell.lst (((DS i).map dl).map A.d)] = s
      have dl3 := lawData_len (f i)
      walk_at "ev"
      rw [hf i hi]
      walk_at "ev"
      rw [x_law_data]
      walk_at "ev"
      rw [x_log_block _ (by omega)]
      walk_at "ev"
      rw [List.length_map, show m__law_fixed [.d (.int ((lawData (f i)).length : Nat)), .d (.int 4)] s = _ from x_law_fixed _ 4 (by decide) s]
      have f4 := fx_len (lawData (f i)).length 4
      have pd : pad (4 + (lawData (f i)).length) < 32 := by unfold pad; omega
      walk_at "ev"
      rw [mLc_range (j := 11) (lo := 0) (s := 1) (n := pad (4 + (lawData (f i)).length)) (st1 := s) (fun _ => iD 0) (by
        walk_at "ev"
        rw [List.length_append, List.length_map, List.length_map, f4]
        rw [show ((32 - ((4 + (lawData (f i)).length : Nat) : Int) % 32) % 32).toNat = pad (4 + (lawData (f i)).length) by unfold pad; omega]) (by unfold SZ; omega) (fun _ _ _ => rfl), zeros]
      walk_at "ev"
      rw [dl_app, dl_app, show fx (lawData (f i)).length 4 ++ lawData (f i) ++ List.replicate (pad (4 + (lawData (f i)).length)) 0 = whole (lawData (f i)) from rfl]
      have bl := block_len (lawData (f i))
      generalize ho2 : forA _ _ _ _ _ _ = o2
      obtain ⟨σ2, s2, rfl, z, rfl, rfl⟩ := forL_nx ho2 (fun k σ s2 => ∃ z : Option A, σ = [some (.d (scrI ns)), some (.d (dll (cat (DS i)))), some (.c st.length), some (.c (st.length + 1)), some (.d (.int i)), some (.d (dl (lawData (f i)))), some (.d (dll (logBlock (lawData (f i))))), some (.d (dl (whole (lawData (f i))))), some (.d (dl ((logBlock (lawData (f i))).take k).flatten)), z, none, none] ∧ s2 = s)
        ⟨y6, rfl, rfl⟩ (fun _ _ _ _ _ => trivial) (by
          rintro k x σ s2 hx ⟨z, rfl, rfl⟩
          obtain ⟨c, hc, rfl⟩ := dll_get hx
          have cl := chunk_len (List.mem_of_getElem? hc)
          have l1 := flat_le (ss := (logBlock (lawData (f i))).take k) (c := 32) fun s h => Nat.le_of_eq (chunk_len (List.mem_of_mem_take h))
          have l2 : ((logBlock (lawData (f i))).take k).length ≤ 100 := by rw [List.length_take]; omega
          walk_at "ev"
          rw [decide_eq_false (by rw [List.length_map, cl]; exact fun h => h rfl)]
          walk_at "ev"
          refine ⟨some (.d (dl c)), ?_, trivial⟩
          rw [take_succ_get hc, List.flatten_append]
          simp)
      rw [List.length_map, List.length_map, List.take_length, block_join]
      walk_at "ev"
      rw [gEq_same (n := 1) _ (pl_dl _) true rfl]
      walk_at "ev"
      subst hs
      have cl := cat_len (DSm i)
      rw [DSl] at cl
      have dsl := DSl i
      walk_at "ev"
      refine ⟨some (.d (.int i)), some (.d (dl (lawData (f i)))), some (.d (dll (logBlock (lawData (f i))))), some (.d (dl (whole (lawData (f i))))), some (.d (dl (whole (lawData (f i))))), z, ?_, ?_⟩
      · rw [DSs, cat_snoc, dll_app]
      · have e := starts_snoc (DS i) (lawData (f i))
        rw [← DSs, DSl, DSl] at e
        rw [← e, DSs]
        simp only [List.map_append, List.map_cons, List.map_nil, List.length_map])
  rw [show Int.toNat 3 = 3 from rfl]
  clear ho
  walk_at "ev"
  rw [show Int.toNat 3 = 3 from rfl]
  have csec : ∀ s ∈ cat (DS 3), s.length = 32 := fun s h => by
    unfold cat at h
    obtain ⟨l, hl, h⟩ := List.mem_flatten.mp h
    obtain ⟨d, _, rfl⟩ := List.mem_map.mp hl
    exact chunk_len h
  generalize hs : st ++ [Cell.lst ((((List.range 3).map (start (DS 3))).map iD).map A.d), Cell.lst (((DS 3).map dl).map A.d)] = s
  have h0 : s[st.length]? = some (Cell.lst ((((List.range 3).map (start (DS 3))).map iD).map A.d)) := by rw [← hs]; exact loc_get0 _ _
  have h1 : s[st.length + 1]? = some (Cell.lst (((DS 3).map dl).map A.d)) := by rw [← hs]; exact loc_get _ 1 _
  have cl := cat_len (DSm 3)
  rw [DSl] at cl
  have dsl := DSl 3
  have sa := starts_all (DS 3)
  rw [dsl] at sa
  generalize ho : forA _ _ _ _ _ _ = o
  obtain ⟨σ', st', rfl, y1, y2, rfl, rfl⟩ := forR_nx ho (fun i σ s' => ∃ z1 z2 : Option A,
      σ = [some (.d (scrI ns)), some (.d (dll (cat (DS 3)))), some (.c st.length), some (.c (st.length + 1)), z1, y2, y3, y4, y5, y6, z2, none] ∧ s' = s)
    ⟨_, _, rfl, rfl⟩ (fun _ _ _ _ _ => trivial) (by
      rintro i σ s' hi ⟨z1, z2, rfl, rfl⟩
      rw [show (0 : Int) + (i : Int) = (i : Int) by omega]
      walk_at "ev"
      rw [h0]
      walk_at "ev"
      have hi : i < 3 := hi
      obtain ⟨d, hd⟩ : ∃ d, (DS 3)[i]? = some d := ⟨_, List.getElem?_eq_getElem (by omega)⟩
      have dle := DSm 3 d (List.mem_of_getElem? hd)
      have sp := start_pos (ds := DS 3) (i := i) (by omega)
      have gst : ∀ j, j < 4 → ((List.range (3 + 1)).map (start (DS 3)))[j]? = some (start (DS 3) j) := fun j hj => by
        rw [List.getElem?_map, List.getElem?_range (by omega)]; rfl
      have gst3 : ((List.range 3).map (start (DS 3)))[i]? = some (start (DS 3) i) := by
        rw [List.getElem?_map, List.getElem?_range hi]; rfl
      have stl : ∀ j, start (DS 3) j ≤ 30 := fun j => by
        have h : ∀ d ∈ (DS 3).take j, d.length ≤ 300 := fun d hd => DSm 3 d (List.mem_of_mem_take hd)
        have h2 := cat_len h
        have h3 : ((DS 3).take j).length ≤ 3 := by rw [List.length_take]; omega
        unfold Lg.start
        omega
      have sl0 := stl i
      have sl1 := stl (i + 1)
      rw [List.length_map, show ((((List.range 3).map (start (DS 3))).map iD) ++ [D.int ((cat (DS 3)).length : Nat)]) = ((List.range (3 + 1)).map (start (DS 3))).map iD by rw [← sa, List.map_append]; rfl, show ((i : Int) + 1) = ((i + 1 : Nat) : Int) from rfl, atI_dl (gst (i + 1) (by omega))]
      walk_at "ev"
      rw [h0]
      walk_at "ev"
      rw [atI_dl gst3]
      walk_at "ev"
      rw [x_read_block _ _ csec (by omega) (by omega), read_here hd (by omega)]
      walk_at "ev"
      rw [h1]
      walk_at "ev"
      rw [atI_dll hd]
      walk_at "ev"
      rw [show gEq true (.d (dBlock (some (d, start (DS 3) (i + 1))))) (.d (.tup [dl d, iD (start (DS 3) (i + 1))])) s' = _ from gEq_same (n := 2) _ (pl_blk _ _) true rfl]
      walk_at "ev"
      rw [show ((start (DS 3) (i + 1) : Int) - 1) = ((start (DS 3) (i + 1) - 1 : Nat) : Int) by omega, cut_0n, ← List.map_take]
      have tl : ((cat (DS 3)).take (start (DS 3) (i + 1) - 1)).length ≤ 30 := by rw [List.length_take]; omega
      walk_at "ev"
      rw [h0]
      walk_at "ev"
      rw [atI_dl gst3]
      walk_at "ev"
      rw [x_read_block _ _ (fun s h => csec s (List.mem_of_mem_take h)) (by omega) (by omega), read_short hd (by omega)]
      unfold dBlock
      walk_at "ev"
      exact ⟨_, _, rfl, trivial⟩)
  subst hs
  clear ho
  walk_at "ev"
  rw [List.length_map, x_read_block _ _ csec (by omega) (by omega), readBlock_none (List.getElem?_eq_none (Nat.le_refl _))]
  unfold dBlock
  walk_at "ev"
theorem x_law (ns : List Int) (hl : ns.length ≤ 63) (st : Store) : m_law [.d (scrI ns)] st = .ok (.d (.bl true)) st := by
  obtain ⟨n, hn, e⟩ := x_draw ns 4 (by decide) hl
  unfold m_law b_law
  walk_at "ev"
  rw [show m__law_draw [.d (scrI ns), .d (.int 4)] st = _ from e st]
  walk_at "ev"
  rw [x_law_blocks ns hl, show (n : Int) % 1000000 = ((n % 1000000 : Nat) : Int) from rfl]
  walk_at "ev"
  rw [x_law_tails _ (by omega)]
  walk_at "ev"
  rw [show (48 + ((n % 1000000 : Nat) : Int) % 153) = ((48 + n % 1000000 % 153 : Nat) : Int) from rfl, x_law_parts]
  walk_at "ev"
end
end Lw
namespace Lw
open PySem PySem.Spec PyProof.Rows L2 Am
section
variable {P : Program} {w : World} {K : PySem.W.Frag} {mg : Str → Option Value} {base : Heap}
/-- the law's own promise -/
def spLaw (K : PySem.W.Frag) : Sp := fun vs H Q _ => ∃ (a : Addr) (ns : List Int), vs = [.ref a] ∧ SqL K H a (ns.map V.int) ∧ ns.length ≤ 63 ∧ ∀ H', Q (.bl true) H'
theorem drs_ints (c : Am.Ctx) (G : Hp) : ∀ ns : List Int, DRs c G (ns.map D.int) (ns.map V.int)
  | [] => rfl
  | n :: ns => ⟨_, _, rfl, rfl, drs_ints c G ns⟩
theorem law_own {lev : Nat} {ps : List Str} {f : MF} (h : Rw.Has P w K mg base (L2.CX P w) lev "law" ps (spM ⟨K, mg⟩ f)) (x : ∀ ns : List Int, ns.length ≤ 63 → ∃ st, f [.d (.scr (ns.map D.int))] [] = .ok (.d (.bl true)) st) : Rw.Has P w K mg base (L2.CX P w) lev "law" ps (spLaw K) :=
  h.imp fun vs H Q E ⟨a, ns, e, hS, hl, q⟩ => by
    subst e
    obtain ⟨st, ex⟩ := x ns hl
    refine ⟨⟨H, fun _ => 0⟩, [], [.d (.scr (ns.map D.int))], ⟨Same.refl _, fun i _ hi => absurd hi (Nat.not_lt_zero i), fun i _ hi => by cases hi⟩, .cons ⟨a, ns.map V.int, rfl, hS, drs_ints _ _ ns⟩ .nil, ?_⟩
    rw [ex]
    intro v w1 H1 _ _ ra
    have : v = .bl true := ra
    rw [this]
    exact q H1
end
end Lw
namespace Lw
open PySem PySem.Spec PyProof.Rows L2 Am
section
variable {P : Program} {w : World} {K : PySem.W.Frag} {mg : Str → Option Value} {base : Heap}
theorem has_lawL (T : Txt K mg) : Rw.Has P w K mg base (L2.CX P w) 5 "law" ["_law_script"] (spLaw K) := law_own (has_law T) fun ns hl => ⟨_, x_law ns hl []⟩
end
end Lw
namespace Lw
open PySem PySem.Spec PyProof.Rows L2 Rw Fld
theorem txt_mk {K : PySem.W.Frag} {h : Heap} {mg : Str → Option Value} (X : K.In h) (G : h.Ns mainGlobals mg)
    {t6 : Tok} {a7 : Addr} {od7 : Option Addr} {n7 : Nat} {sl7 : Array (Option Value)} {t7_0 : Tok} {t7_1 : Tok} {t7_2 : Tok} {t7_3 : Tok} {f8 : Addr} {od8 an8 : Option Addr} {sl8 : Array (Option Value)} {oc8 kV8 dc8 pm8 cd8 ct8 : Value} {f9 : Addr} {od9 an9 : Option Addr} {sl9 : Array (Option Value)} {oc9 kV9 dc9 pm9 cd9 ct9 : Value} {f10 : Addr} {od10 an10 : Option Addr} {sl10 : Array (Option Value)} {oc10 kV10 dc10 pm10 cd10 ct10 : Value} {f11 : Addr} {od11 an11 : Option Addr} {sl11 : Array (Option Value)} {oc11 kV11 dc11 pm11 cd11 ct11 : Value} {f12 : Addr} {od12 an12 : Option Addr} {sl12 : Array (Option Value)} {oc12 kV12 dc12 pm12 cd12 ct12 : Value} {f13 : Addr} {od13 an13 : Option Addr} {sl13 : Array (Option Value)} {oc13 kV13 dc13 pm13 cd13 ct13 : Value} {f14 : Addr} {od14 an14 : Option Addr} {sl14 : Array (Option Value)} {oc14 kV14 dc14 pm14 cd14 ct14 : Value} {f15 : Addr} {od15 an15 : Option Addr} {sl15 : Array (Option Value)} {oc15 kV15 dc15 pm15 cd15 ct15 : Value} {f16 : Addr} {od16 an16 : Option Addr} {sl16 : Array (Option Value)} {oc16 kV16 dc16 pm16 cd16 ct16 : Value} {f17 : Addr} {od17 an17 : Option Addr} {sl17 : Array (Option Value)} {oc17 kV17 dc17 pm17 cd17 ct17 : Value} {f18 : Addr} {od18 an18 : Option Addr} {sl18 : Array (Option Value)} {oc18 kV18 dc18 pm18 cd18 ct18 : Value} {f19 : Addr} {od19 an19 : Option Addr} {sl19 : Array (Option Value)} {oc19 kV19 dc19 pm19 cd19 ct19 : Value} {f20 : Addr} {od20 an20 : Option Addr} {sl20 : Array (Option Value)} {oc20 kV20 dc20 pm20 cd20 ct20 : Value} {f21 : Addr} {od21 an21 : Option Addr} {sl21 : Array (Option Value)} {oc21 kV21 dc21 pm21 cd21 ct21 : Value} {f22 : Addr} {od22 an22 : Option Addr} {sl22 : Array (Option Value)} {oc22 kV22 dc22 pm22 cd22 ct22 : Value} {f23 : Addr} {od23 an23 : Option Addr} {sl23 : Array (Option Value)} {oc23 kV23 dc23 pm23 cd23 ct23 : Value} {f24 : Addr} {od24 an24 : Option Addr} {sl24 : Array (Option Value)} {oc24 kV24 dc24 pm24 cd24 ct24 : Value}
    (q1 : PySem.W.nsIn K mainGlobals "int" = some none) (q2 : PySem.W.nsIn K mainGlobals "len" = some none) (q3 : PySem.W.nsIn K mainGlobals "list" = some none) (q4 : PySem.W.nsIn K mainGlobals "min" = some none) (q5 : PySem.W.nsIn K mainGlobals "range" = some none) (q6 : PySem.W.nsIn K mainGlobals "SECTOR" = some (some (.int 32 t6))) (q7 : PySem.W.nsIn K mainGlobals "SIGN" = some (some (.ref a7))) (l7 : K.lookup a7 = some ⟨.type "tuple", od7, .seq #[.int 70 t7_0, .int 73 t7_1, .int 76 t7_2, .int 69 t7_3] n7, sl7⟩) (a8 : PySem.W.nsIn K mainGlobals "area_size" = some (some (.ref f8))) (l8 : K.lookup f8 = some ⟨oc8, od8, .func (PySem.W.fnOf "area_size" "area_size" (defArgs (topS 3)) (defBody (topS 3)) (defScope (topS 3)) .none kV8 dc8 pm8 an8 cd8 ct8), sl8⟩) (c8 : PySem.W.codeIn K cd8 "area_size" = true) (k8 : PySem.W.keepIn K (.ref f8) = true) (a9 : PySem.W.nsIn K mainGlobals "area_start" = some (some (.ref f9))) (l9 : K.lookup f9 = some ⟨oc9, od9, .func (PySem.W.fnOf "area_start" "area_start" (defArgs (topS 4)) (defBody (topS 4)) (defScope (topS 4)) .none kV9 dc9 pm9 an9 cd9 ct9), sl9⟩) (c9 : PySem.W.codeIn K cd9 "area_start" = true) (k9 : PySem.W.keepIn K (.ref f9) = true) (a10 : PySem.W.nsIn K mainGlobals "region_start" = some (some (.ref f10))) (l10 : K.lookup f10 = some ⟨oc10, od10, .func (PySem.W.fnOf "region_start" "region_start" (defArgs (topS 5)) (defBody (topS 5)) (defScope (topS 5)) .none kV10 dc10 pm10 an10 cd10 ct10), sl10⟩) (c10 : PySem.W.codeIn K cd10 "region_start" = true) (k10 : PySem.W.keepIn K (.ref f10) = true) (a11 : PySem.W.nsIn K mainGlobals "stripe_count" = some (some (.ref f11))) (l11 : K.lookup f11 = some ⟨oc11, od11, .func (PySem.W.fnOf "stripe_count" "stripe_count" (defArgs (topS 6)) (defBody (topS 6)) (defScope (topS 6)) .none kV11 dc11 pm11 an11 cd11 ct11), sl11⟩) (c11 : PySem.W.codeIn K cd11 "stripe_count" = true) (k11 : PySem.W.keepIn K (.ref f11) = true) (a12 : PySem.W.nsIn K mainGlobals "write_fixed" = some (some (.ref f12))) (l12 : K.lookup f12 = some ⟨oc12, od12, .func (PySem.W.fnOf "write_fixed" "write_fixed" (defArgs (topS 7)) (defBody (topS 7)) (defScope (topS 7)) .none kV12 dc12 pm12 an12 cd12 ct12), sl12⟩) (c12 : PySem.W.codeIn K cd12 "write_fixed" = true) (k12 : PySem.W.keepIn K (.ref f12) = true) (a13 : PySem.W.nsIn K mainGlobals "read_fixed" = some (some (.ref f13))) (l13 : K.lookup f13 = some ⟨oc13, od13, .func (PySem.W.fnOf "read_fixed" "read_fixed" (defArgs (topS 8)) (defBody (topS 8)) (defScope (topS 8)) .none kV13 dc13 pm13 an13 cd13 ct13), sl13⟩) (c13 : PySem.W.codeIn K cd13 "read_fixed" = true) (k13 : PySem.W.keepIn K (.ref f13) = true) (a14 : PySem.W.nsIn K mainGlobals "log_block" = some (some (.ref f14))) (l14 : K.lookup f14 = some ⟨oc14, od14, .func (PySem.W.fnOf "log_block" "log_block" (defArgs (topS 9)) (defBody (topS 9)) (defScope (topS 9)) .none kV14 dc14 pm14 an14 cd14 ct14), sl14⟩) (c14 : PySem.W.codeIn K cd14 "log_block" = true) (k14 : PySem.W.keepIn K (.ref f14) = true) (a15 : PySem.W.nsIn K mainGlobals "read_block" = some (some (.ref f15))) (l15 : K.lookup f15 = some ⟨oc15, od15, .func (PySem.W.fnOf "read_block" "read_block" (defArgs (topS 10)) (defBody (topS 10)) (defScope (topS 10)) .none kV15 dc15 pm15 an15 cd15 ct15), sl15⟩) (c15 : PySem.W.codeIn K cd15 "read_block" = true) (k15 : PySem.W.keepIn K (.ref f15) = true) (a16 : PySem.W.nsIn K mainGlobals "tail" = some (some (.ref f16))) (l16 : K.lookup f16 = some ⟨oc16, od16, .func (PySem.W.fnOf "tail" "tail" (defArgs (topS 11)) (defBody (topS 11)) (defScope (topS 11)) .none kV16 dc16 pm16 an16 cd16 ct16), sl16⟩) (c16 : PySem.W.codeIn K cd16 "tail" = true) (k16 : PySem.W.keepIn K (.ref f16) = true) (a17 : PySem.W.nsIn K mainGlobals "read_tail" = some (some (.ref f17))) (l17 : K.lookup f17 = some ⟨oc17, od17, .func (PySem.W.fnOf "read_tail" "read_tail" (defArgs (topS 12)) (defBody (topS 12)) (defScope (topS 12)) .none kV17 dc17 pm17 an17 cd17 ct17), sl17⟩) (c17 : PySem.W.codeIn K cd17 "read_tail" = true) (k17 : PySem.W.keepIn K (.ref f17) = true) (a18 : PySem.W.nsIn K mainGlobals "_law_draw" = some (some (.ref f18))) (l18 : K.lookup f18 = some ⟨oc18, od18, .func (PySem.W.fnOf "_law_draw" "_law_draw" (defArgs (topS 14)) (defBody (topS 14)) (defScope (topS 14)) .none kV18 dc18 pm18 an18 cd18 ct18), sl18⟩) (c18 : PySem.W.codeIn K cd18 "_law_draw" = true) (k18 : PySem.W.keepIn K (.ref f18) = true) (a19 : PySem.W.nsIn K mainGlobals "_law_data" = some (some (.ref f19))) (l19 : K.lookup f19 = some ⟨oc19, od19, .func (PySem.W.fnOf "_law_data" "_law_data" (defArgs (topS 15)) (defBody (topS 15)) (defScope (topS 15)) .none kV19 dc19 pm19 an19 cd19 ct19), sl19⟩) (c19 : PySem.W.codeIn K cd19 "_law_data" = true) (k19 : PySem.W.keepIn K (.ref f19) = true) (a20 : PySem.W.nsIn K mainGlobals "_law_fixed" = some (some (.ref f20))) (l20 : K.lookup f20 = some ⟨oc20, od20, .func (PySem.W.fnOf "_law_fixed" "_law_fixed" (defArgs (topS 16)) (defBody (topS 16)) (defScope (topS 16)) .none kV20 dc20 pm20 an20 cd20 ct20), sl20⟩) (c20 : PySem.W.codeIn K cd20 "_law_fixed" = true) (k20 : PySem.W.keepIn K (.ref f20) = true) (a21 : PySem.W.nsIn K mainGlobals "_law_blocks" = some (some (.ref f21))) (l21 : K.lookup f21 = some ⟨oc21, od21, .func (PySem.W.fnOf "_law_blocks" "_law_blocks" (defArgs (topS 17)) (defBody (topS 17)) (defScope (topS 17)) .none kV21 dc21 pm21 an21 cd21 ct21), sl21⟩) (c21 : PySem.W.codeIn K cd21 "_law_blocks" = true) (k21 : PySem.W.keepIn K (.ref f21) = true) (a22 : PySem.W.nsIn K mainGlobals "_law_tails" = some (some (.ref f22))) (l22 : K.lookup f22 = some ⟨oc22, od22, .func (PySem.W.fnOf "_law_tails" "_law_tails" (defArgs (topS 18)) (defBody (topS 18)) (defScope (topS 18)) .none kV22 dc22 pm22 an22 cd22 ct22), sl22⟩) (c22 : PySem.W.codeIn K cd22 "_law_tails" = true) (k22 : PySem.W.keepIn K (.ref f22) = true) (a23 : PySem.W.nsIn K mainGlobals "_law_parts" = some (some (.ref f23))) (l23 : K.lookup f23 = some ⟨oc23, od23, .func (PySem.W.fnOf "_law_parts" "_law_parts" (defArgs (topS 19)) (defBody (topS 19)) (defScope (topS 19)) .none kV23 dc23 pm23 an23 cd23 ct23), sl23⟩) (c23 : PySem.W.codeIn K cd23 "_law_parts" = true) (k23 : PySem.W.keepIn K (.ref f23) = true) (a24 : PySem.W.nsIn K mainGlobals "law" = some (some (.ref f24))) (l24 : K.lookup f24 = some ⟨oc24, od24, .func (PySem.W.fnOf "law" "law" (defArgs (topS 20)) (defBody (topS 20)) (defScope (topS 20)) .none kV24 dc24 pm24 an24 cd24 ct24), sl24⟩) (c24 : PySem.W.codeIn K cd24 "law" = true) (k24 : PySem.W.keepIn K (.ref f24) = true) : Txt K mg where
  b_int := PySem.W.mg_none_of X G q1
  b_len := PySem.W.mg_none_of X G q2
  b_list := PySem.W.mg_none_of X G q3
  b_min := PySem.W.mg_none_of X G q4
  b_range := PySem.W.mg_none_of X G q5
  c_SECTOR := ⟨_, PySem.W.mg_of X G q6, _, rfl⟩
  c_SIGN := ⟨_, PySem.W.mg_of X G q7, _, _, _, l7, rfl, rfl, (by show 4 ≤ sizeLine; decide), (.cons ⟨_, rfl⟩ (.cons ⟨_, rfl⟩ (.cons ⟨_, rfl⟩ (.cons ⟨_, rfl⟩ .nil))))⟩
  area_size := ⟨_, _, PySem.W.mg_of X G a8, fun_mk (st := (topS 3)) l8 c8 k8, (fun_mk (st := (topS 3)) l8 c8 k8).binds (ps := ["sectors"]) fun _ _ _ _ _ _ us hl => match us, hl with | [_], _ => rfl⟩
  area_start := ⟨_, _, PySem.W.mg_of X G a9, fun_mk (st := (topS 4)) l9 c9 k9, (fun_mk (st := (topS 4)) l9 c9 k9).binds (ps := ["sectors", "area"]) fun _ _ _ _ _ _ us hl => match us, hl with | [_, _], _ => rfl⟩
  region_start := ⟨_, _, PySem.W.mg_of X G a10, fun_mk (st := (topS 5)) l10 c10 k10, (fun_mk (st := (topS 5)) l10 c10 k10).binds (ps := ["sectors"]) fun _ _ _ _ _ _ us hl => match us, hl with | [_], _ => rfl⟩
  stripe_count := ⟨_, _, PySem.W.mg_of X G a11, fun_mk (st := (topS 6)) l11 c11 k11, (fun_mk (st := (topS 6)) l11 c11 k11).binds (ps := ["sectors"]) fun _ _ _ _ _ _ us hl => match us, hl with | [_], _ => rfl⟩
  write_fixed := ⟨_, _, PySem.W.mg_of X G a12, fun_mk (st := (topS 7)) l12 c12 k12, (fun_mk (st := (topS 7)) l12 c12 k12).binds (ps := ["number", "count"]) fun _ _ _ _ _ _ us hl => match us, hl with | [_, _], _ => rfl⟩
  read_fixed := ⟨_, _, PySem.W.mg_of X G a13, fun_mk (st := (topS 8)) l13 c13 k13, (fun_mk (st := (topS 8)) l13 c13 k13).binds (ps := ["data"]) fun _ _ _ _ _ _ us hl => match us, hl with | [_], _ => rfl⟩
  log_block := ⟨_, _, PySem.W.mg_of X G a14, fun_mk (st := (topS 9)) l14 c14 k14, (fun_mk (st := (topS 9)) l14 c14 k14).binds (ps := ["data"]) fun _ _ _ _ _ _ us hl => match us, hl with | [_], _ => rfl⟩
  read_block := ⟨_, _, PySem.W.mg_of X G a15, fun_mk (st := (topS 10)) l15 c15 k15, (fun_mk (st := (topS 10)) l15 c15 k15).binds (ps := ["sectors", "start"]) fun _ _ _ _ _ _ us hl => match us, hl with | [_, _], _ => rfl⟩
  tail := ⟨_, _, PySem.W.mg_of X G a16, fun_mk (st := (topS 11)) l16 c16 k16, (fun_mk (st := (topS 11)) l16 c16 k16).binds (ps := ["commits", "area", "image", "counting"]) fun _ _ _ _ _ _ us hl => match us, hl with | [_, _, _, _], _ => rfl⟩
  read_tail := ⟨_, _, PySem.W.mg_of X G a17, fun_mk (st := (topS 12)) l17 c17 k17, (fun_mk (st := (topS 12)) l17 c17 k17).binds (ps := ["sector"]) fun _ _ _ _ _ _ us hl => match us, hl with | [_], _ => rfl⟩
  _law_draw := ⟨_, _, PySem.W.mg_of X G a18, fun_mk (st := (topS 14)) l18 c18 k18, (fun_mk (st := (topS 14)) l18 c18 k18).binds (ps := ["_law_script", "_law_k"]) fun _ _ _ _ _ _ us hl => match us, hl with | [_, _], _ => rfl⟩
  _law_data := ⟨_, _, PySem.W.mg_of X G a19, fun_mk (st := (topS 15)) l19 c19 k19, (fun_mk (st := (topS 15)) l19 c19 k19).binds (ps := ["_law_number"]) fun _ _ _ _ _ _ us hl => match us, hl with | [_], _ => rfl⟩
  _law_fixed := ⟨_, _, PySem.W.mg_of X G a20, fun_mk (st := (topS 16)) l20 c20 k20, (fun_mk (st := (topS 16)) l20 c20 k20).binds (ps := ["_law_number", "_law_count"]) fun _ _ _ _ _ _ us hl => match us, hl with | [_, _], _ => rfl⟩
  _law_blocks := ⟨_, _, PySem.W.mg_of X G a21, fun_mk (st := (topS 17)) l21 c21 k21, (fun_mk (st := (topS 17)) l21 c21 k21).binds (ps := ["_law_script"]) fun _ _ _ _ _ _ us hl => match us, hl with | [_], _ => rfl⟩
  _law_tails := ⟨_, _, PySem.W.mg_of X G a22, fun_mk (st := (topS 18)) l22 c22 k22, (fun_mk (st := (topS 18)) l22 c22 k22).binds (ps := ["_law_number"]) fun _ _ _ _ _ _ us hl => match us, hl with | [_], _ => rfl⟩
  _law_parts := ⟨_, _, PySem.W.mg_of X G a23, fun_mk (st := (topS 19)) l23 c23 k23, (fun_mk (st := (topS 19)) l23 c23 k23).binds (ps := ["_law_sectors"]) fun _ _ _ _ _ _ us hl => match us, hl with | [_], _ => rfl⟩
  law := ⟨_, _, PySem.W.mg_of X G a24, fun_mk (st := (topS 20)) l24 c24 k24, (fun_mk (st := (topS 20)) l24 c24 k24).binds (ps := ["_law_script"]) fun _ _ _ _ _ _ us hl => match us, hl with | [_], _ => rfl⟩
theorem law_mk {P : Program} {w : World} {K : PySem.W.Frag} {mg : Str → Option Value} {fa : Addr} (T : Txt K mg) (hfa : mg "law" = some (.ref fa)) :
    ∃ fd : FuncData, (∀ (s : Shared) (v : Value), BindsTo s fd ⟨[v], []⟩ [("_law_script", v)]) ∧ ∀ base : Heap, K.In base → base.Ns mainGlobals mg → FnOk P w K mg base (L2.CX P w) 5 fa fd ["_law_script"] (spLaw K) := by
  refine Has.law (x := "law") (ps := ["_law_script"]) (fun base => has_lawL T) ?_ hfa
  obtain ⟨f, fd, g, F, _⟩ := T.law
  have lk := fun_look F
  obtain ⟨oc, od, kV, doc, pm, an, cdv, ct, osl, rfl, l, c⟩ := F.ex
  exact ⟨f, _, g, lk, fun s v => .of_eq rfl⟩
end Lw
open PySem PySem.W PyProof.Rows
set_option maxRecDepth 100000 in
set_option maxHeartbeats 0 in
theorem PySem.Challenge.cw_rotward_k03_log_blocks_and_tails_holds : PySem.Challenge.rw_rotward_k03_log_blocks_and_tails.Holds := by
  w_on; o_law; k_head; (case hw => w_witness2)
  k_fill
  refine L2.walk_of (l := PySem.Challenge.rw_rotward_k03_log_blocks_and_tails) (n := 63) (k := 5) (x := "_law_script") (CX := fun w => L2.CX (PySem.Challenge.rw_rotward_k03_log_blocks_and_tails).prog w) (sp := fun w => Lw.spLaw _) rfl (by decide) rfl ⟨rfl, by decide, by decide⟩ (fun w h Y => PySem.W.kIn_of Y) ?F (fun _ _ a ns hl _ hS => ⟨a, ns, rfl, hS, hl, fun _ => rfl⟩) (fun _ _ _ _ _ ⟨_, _, _, _, _, _, _, _, _, _, _, _, h⟩ => h)
  case F =>
    intro w mg fa h KX G hmg
    refine Lw.law_mk ?T hmg
    refine' Lw.txt_mk KX G ?q1 ?q2 ?q3 ?q4 ?q5 ?q6 ?q7 ?l7 ?a8 ?l8 ?c8 ?k8 ?a9 ?l9 ?c9 ?k9 ?a10 ?l10 ?c10 ?k10 ?a11 ?l11 ?c11 ?k11 ?a12 ?l12 ?c12 ?k12 ?a13 ?l13 ?c13 ?k13 ?a14 ?l14 ?c14 ?k14 ?a15 ?l15 ?c15 ?k15 ?a16 ?l16 ?c16 ?k16 ?a17 ?l17 ?c17 ?k17 ?a18 ?l18 ?c18 ?k18 ?a19 ?l19 ?c19 ?k19 ?a20 ?l20 ?c20 ?k20 ?a21 ?l21 ?c21 ?k21 ?a22 ?l22 ?c22 ?k22 ?a23 ?l23 ?c23 ?k23 ?a24 ?l24 ?c24 ?k24
    (case q1 => k_is)
    (case q2 => k_is)
    (case q3 => k_is)
    (case q4 => k_is)
    (case q5 => k_is)
    (case q6 => k_is)
    (case q7 => k_is)
    (case l7 => k_is)
    (case a8 => k_is)
    (case l8 => k_is)
    (case c8 => k_is)
    (case k8 => k_is)
    (case a9 => k_is)
    (case l9 => k_is)
    (case c9 => k_is)
    (case k9 => k_is)
    (case a10 => k_is)
    (case l10 => k_is)
    (case c10 => k_is)
    (case k10 => k_is)
    (case a11 => k_is)
    (case l11 => k_is)
    (case c11 => k_is)
    (case k11 => k_is)
    (case a12 => k_is)
    (case l12 => k_is)
    (case c12 => k_is)
    (case k12 => k_is)
    (case a13 => k_is)
    (case l13 => k_is)
    (case c13 => k_is)
    (case k13 => k_is)
    (case a14 => k_is)
    (case l14 => k_is)
    (case c14 => k_is)
    (case k14 => k_is)
    (case a15 => k_is)
    (case l15 => k_is)
    (case c15 => k_is)
    (case k15 => k_is)
    (case a16 => k_is)
    (case l16 => k_is)
    (case c16 => k_is)
    (case k16 => k_is)
    (case a17 => k_is)
    (case l17 => k_is)
    (case c17 => k_is)
    (case k17 => k_is)
    (case a18 => k_is)
    (case l18 => k_is)
    (case c18 => k_is)
    (case k18 => k_is)
    (case a19 => k_is)
    (case l19 => k_is)
    (case c19 => k_is)
    (case k19 => k_is)
    (case a20 => k_is)
    (case l20 => k_is)
    (case c20 => k_is)
    (case k20 => k_is)
    (case a21 => k_is)
    (case l21 => k_is)
    (case c21 => k_is)
    (case k21 => k_is)
    (case a22 => k_is)
    (case l22 => k_is)
    (case c22 => k_is)
    (case k22 => k_is)
    (case a23 => k_is)
    (case l23 => k_is)
    (case c23 => k_is)
    (case k23 => k_is)
    (case a24 => k_is)
    (case l24 => k_is)
    (case c24 => k_is)
    (case k24 => k_is)
#print axioms PySem.Challenge.cw_rotward_k03_log_blocks_and_tails_holds
