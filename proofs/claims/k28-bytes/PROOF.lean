import PyProof.Rows.All
import Wide.All
import OpenK.AllK
import Wide.FinOn
import HandS.ForSpec
import HandS.ForMost
import HandS.IsInst
import HandS.Flow
import HandS.Wide
import HandS.Codes
import HandS.Evl
import HandS.TupAny
import HandS.Style
import HandS.TupLen
import HandS.CallSlots
import HandS.SortInts
import HandS.SortRule
import HandS.DictComp
import HandS.ExcIs
import HandS.Conv
import KE.LtData
import HandS.Strs
import HandS.Replace
import PySem.Challenge.RW_rotward_k28_bytes_of_data
set_option Elab.async false
set_option linter.all false
set_option maxRecDepth 100000
set_option maxHeartbeats 4000000
/-! ### Core: what a def is worth by its name, calls by it, steps of readings -/
namespace Rw
open PySem PySem.Spec PyProof.Rows L2
/-- the module's name x stands for a def that keeps sp at level k -/
def Has (P : Program) (w : World) (K : PySem.W.Frag) (mg : Str → Option Value) (base : Heap) (CX : CXT) (k : Nat) (x : Str) (ps : List Str) (sp : Sp) : Prop :=
  ∃ (f : Addr) (fd : FuncData), mg x = some (.ref f) ∧ PySem.W.keepIn K (.ref f) = true ∧ Binds K fd ps [] ∧ (∃ oc od osl, K.lookup f = some ⟨oc, od, .func fd, osl⟩) ∧ FnOk P w K mg base CX k f fd ps sp
/-- the text's def as the top leaves it -/
def Def (K : PySem.W.Frag) (mg : Str → Option Value) (x qual : Str) (st : Stmt) (ps : List Str) : Prop :=
  ∃ (f : Addr) (fd : FuncData), mg x = some (.ref f) ∧ Fun K x qual st f fd ∧ Binds K fd ps []
theorem fun_look {K : PySem.W.Frag} {x qual : Str} {st : Stmt} {f : Addr} {fd : FuncData} (F : Fun K x qual st f fd) : ∃ oc od osl, K.lookup f = some ⟨oc, od, .func fd, osl⟩ := by
  obtain ⟨oc, od, _, _, _, _, _, _, osl, _, l, _⟩ := F.ex
  exact ⟨oc, od, osl, l⟩
section
variable {P : Program} {w : World} {K : PySem.W.Frag} {mg : Str → Option Value} {base : Heap} {CX : CXT} {k : Nat} {x qual : Str} {st : Stmt} {ps N : List Str} {sp : Sp}
theorem Def.has (D : Def K mg x qual st ps) (S : FnScope N ps (defScope st)) (len : ∀ vs H Q E, sp vs H Q E → vs.length = ps.length)
    (hbody : ∀ (f : Addr) (cdv : Value) (A : Around) (outer : List Env) (s : Shared) (H : Hp) (vs : List V) (Q : VK) (E : XK), Room k (A.deeper (envOfC qual (defScope st) s.heap.objs.size f cdv)) → sp vs H Q E →
      ∃ t, PSs (cxOf CX0 P w K mg base N qual (defScope st) f cdv A outer s H E).nox (defBody st) t ∧ t { nx := fun _ H' => Q .non H', rt := Q } (start N vs) H) : Has P w K mg base CX0 (k + 1) x ps sp := by
  obtain ⟨f, fd, g, F, b⟩ := D
  exact ⟨f, fd, g, F.kp, b, fun_look F, F.ok S len (hbody f)⟩
theorem Def.hasX (D : Def K mg x qual st ps) (S : FnScope N ps (defScope st)) (len : ∀ vs H Q E, sp vs H Q E → vs.length = ps.length)
    (hbody : ∀ (f : Addr) (cdv : Value) (A : Around) (outer : List Env) (s : Shared) (H : Hp) (vs : List V) (Q : VK) (E : XK), Room k (A.deeper (envOfC qual (defScope st) s.heap.objs.size f cdv)) → sp vs H Q E →
      ∃ t, PSs (cxOf (L2.CX P w) P w K mg base N qual (defScope st) f cdv A outer s H E) (defBody st) t ∧ t { nx := fun _ H' => Q .non H', rt := Q } (start N vs) H) : Has P w K mg base (L2.CX P w) (k + 1) x ps sp := by
  obtain ⟨f, fd, g, F, b⟩ := D
  exact ⟨f, fd, g, F.kp, b, fun_look F, F.okX S len (hbody f)⟩
/-- the law's own def, for walk_of -/
theorem Has.law {fa : Addr} (h : ∀ base, Has P w K mg base CX k x ps sp) (D : ∃ (f : Addr) (fd : FuncData), mg x = some (.ref f) ∧ (∃ oc od osl, K.lookup f = some ⟨oc, od, .func fd, osl⟩) ∧ ∀ (s : Shared) (v : Value), BindsTo s fd ⟨[v], []⟩ (ps.zip [v])) (hfa : mg x = some (.ref fa)) :
    ∃ fd : FuncData, (∀ (s : Shared) (v : Value), BindsTo s fd ⟨[v], []⟩ (ps.zip [v])) ∧ ∀ base : Heap, K.In base → base.Ns mainGlobals mg → FnOk P w K mg base CX k fa fd ps sp := by
  obtain ⟨f, fd, g, ⟨oc, od, osl, lk⟩, hb⟩ := D
  have e := hfa.symm.trans g
  cases e
  refine ⟨fd, hb, fun base _ _ => ?_⟩
  obtain ⟨f', fd', g', _, _, ⟨oc', od', osl', lk'⟩, ok⟩ := h base
  have e := g.symm.trans g'
  cases e
  rw [lk] at lk'
  cases lk'
  exact ok
/-- a def that is not called -/
theorem Def.never (D : Def K mg x qual st ps) : Has P w K mg base CX k x ps (fun _ _ _ _ => False) := by
  obtain ⟨f, fd, g, F, b⟩ := D
  exact ⟨f, fd, g, F.kp, b, fun_look F, ⟨fun _ _ _ _ h => h.elim, fun _ _ _ _ _ _ _ _ _ _ _ _ _ h => h.elim⟩⟩
theorem Has.mono {j : Nat} (h : Has P w K mg base CX j x ps sp) (l : j ≤ k) : Has P w K mg base CX k x ps sp := by
  obtain ⟨f, fd, g, kp, b, lk, F⟩ := h
  exact ⟨f, fd, g, kp, b, lk, F.mono l⟩
theorem Has.imp {sp' : Sp} (h : Has P w K mg base CX k x ps sp) (i : ∀ vs H Q E, sp' vs H Q E → sp vs H Q E) : Has P w K mg base CX k x ps sp' := by
  obtain ⟨f, fd, g, kp, b, lk, F⟩ := h
  exact ⟨f, fd, g, kp, b, lk, F.imp i⟩
end
/-- xs[i], for op= -/
theorem get_list {X : Cx} : PGet X (rIxL X.K) := by
  intro pins s σ H o i ov iv Q I ro ri h
  obtain ⟨p, xs, j, z, rfl, rfl, hq, he, q⟩ := h
  cases ro
  obtain ⟨t, rfl⟩ := ri
  obtain ⟨its, r, pl, hz⟩ := I.list hq
  obtain ⟨n, h1, h2, h3, h4, h5⟩ := atI_get he
  obtain ⟨w, ew, rw'⟩ := r.get h2
  have hl := r.length
  have hn := line63
  have fin : EP X pins σ Q w s := ⟨z, H, I, rw', q⟩
  by_cases h0 : 0 ≤ j
  · have hj : j.toNat = n := by
      rw [seqIndex_of h0 h5] at h1
      exact Option.some.inj h1
    exact wpAny_getItem_list pl.isList h0 (by omega) (by rw [hj]; simpa using ew) fin
  · have hj : (j + (its.toArray.size : Int)).toNat = n := by
      rw [seqIndex_neg (by omega) h4] at h1
      rw [List.size_toArray, ← hl]
      exact Option.some.inj h1
    exact wpAny_getItem_list_neg pl.isList (by omega) (by rw [List.size_toArray] <;> omega) (by omega) (by rw [hj]; simpa using ew) fin
/-- a module's constant -/
def Glob (mg : Str → Option Value) (x : Str) (v : V) : Prop := ∃ u, mg x = some u ∧ RelV v u
theorem pe_globE {X : Cx} {x : Str} {v : V} {pos : Pos} (hg : Gl X x) (h : Glob X.mg x v) (hd : (x == ("__debug__" : Str)) = false := by decide) : PE X (.Name x pos) (tC v) := by
  obtain ⟨u, hm, r⟩ := h
  exact pe_glob hg hm r hd
def GlobT (K : PySem.W.Frag) (mg : Str → Option Value) (x : Str) (vs : List V) : Prop :=
  ∃ a, mg x = some (.ref a) ∧ ∃ (o : Obj) (its : Array Value) (n : Nat), K.lookup a = some o ∧ o.cls = .type "tuple" ∧ o.data = .seq its n ∧ its.size ≤ sizeLine ∧ Vals vs its.toList
end Rw
namespace Fld
end Fld
namespace Lw
end Lw
/-! ### Am: an abstract machine of values: data by what they hold, a store of cells that may change -/
namespace Am
open PySem PySem.Spec PyProof.Rows L2
/-- data: what is never changed any more -/
inductive D where
  | non | bl (b : Bool) | int (i : Int) | str (x : Str) | fn (x : Str)
  | list (xs : List D) | scr (xs : List D) | tup (xs : List D) | kt (xs : List D)
  | dK (kvs : List (Key × D)) | dT (kvs : List (List Key × D))
  | ins (c : Str) (fs : List (Str × D))
/-- a value: data, or a cell of the store -/
inductive A where
  | d (x : D) | c (i : Nat)
/-- what a cell holds -/
inductive Cell where
  | lst (xs : List A) | dK (kvs : List (Key × A)) | dT (kvs : List (List Key × A)) | ins (c : Str) (fs : List (Str × A))
  | fz (x : D)
abbrev Store := List Cell
abbrev Slots := List (Option A)
/-- an exception of an own class -/
structure Exn where
  cls : Str
  fs : Option (List (Str × D))
inductive Res (α : Type) where
  | ok (a : α) (st : Store) | ex (x : Exn) (st : Store) | no
inductive Out where
  | nx (σ : Slots) (st : Store) | rt (a : A) (st : Store) | bk (σ : Slots) (st : Store) | ct (σ : Slots) (st : Store) | ex (x : Exn) (σ : Slots) (st : Store) | no
abbrev ME := Slots → Store → Res A
abbrev MT := Slots → Store → Res Bool
abbrev MA := Slots → Store → Res (List A)
abbrev MS := Slots → Store → Out
abbrev MF := List A → Store → Res A
/-- a test that is not reckoned -/
noncomputable def ifc {α : Sort _} (p : Prop) (a b : α) : α := @ite α p (Classical.propDecidable p) a b
theorem ifc_pos {α : Sort _} {p : Prop} {a b : α} (h : p) : ifc p a b = a := by unfold ifc; exact if_pos h
theorem ifc_neg {α : Sort _} {p : Prop} {a b : α} (h : ¬ p) : ifc p a b = b := by unfold ifc; exact if_neg h
def Res.bind {α β : Type} : Res α → (α → Store → Res β) → Res β
  | .ok a st, k => k a st
  | .ex x st, _ => .ex x st
  | .no, _ => .no

structure Ctx where
  K : PySem.W.Frag
  mg : Str → Option Value
structure Wd where
  G : Hp
  E : Nat → Addr

/-! ### data in a heap -/
def KD {κ β γ : Type} (R : β → γ → Prop) : κ × β → κ × γ → Prop := fun p q => p.1 = q.1 ∧ R p.2 q.2
section
variable (c : Ctx) (G : Hp)
mutual
def DR : D → V → Prop
  | .non, v => v = .non
  | .bl b, v => v = .bl b
  | .int i, v => v = .int i
  | .str x, v => v = .str x
  | .fn x, v => ∃ f, c.mg x = some (.ref f) ∧ v = .ref f
  | .list ds, v => ∃ a vs, v = .ref a ∧ G a = some (.lst vs) ∧ DRs ds vs
  | .scr ds, v => ∃ a vs, v = .ref a ∧ SqL c.K G a vs ∧ DRs ds vs
  | .tup ds, v => ∃ a vs, v = .ref a ∧ G a = some (.tup vs) ∧ DRs ds vs
  | .kt ds, v => ∃ a vs, v = .ref a ∧ SqT c.K G a vs ∧ DRs ds vs
  | .dK ds, v => ∃ a us, v = .ref a ∧ Rd G a (.dK us) ∧ DRk ds us
  | .dT ds, v => ∃ a us, v = .ref a ∧ Rd G a (.dT us) ∧ DRt ds us
  | .ins x ds, v => ∃ a C dx us, v = .ref a ∧ G a = some (.ins C dx us) ∧ c.mg x = some (.ref C) ∧ DRf ds us
def DRs : List D → List V → Prop
  | [], vs => vs = []
  | d :: ds, vs => ∃ v r, vs = v :: r ∧ DR d v ∧ DRs ds r
def DRk : List (Key × D) → List (Key × V) → Prop
  | [], vs => vs = []
  | (k, d) :: ds, vs => ∃ v r, vs = (k, v) :: r ∧ DR d v ∧ DRk ds r
def DRt : List (List Key × D) → List (List Key × V) → Prop
  | [], vs => vs = []
  | (k, d) :: ds, vs => ∃ v r, vs = (k, v) :: r ∧ DR d v ∧ DRt ds r
def DRf : List (Str × D) → List (Str × V) → Prop
  | [], vs => vs = []
  | (k, d) :: ds, vs => ∃ v r, vs = (k, v) :: r ∧ DR d v ∧ DRf ds r
end
end
theorem same_rd {H H' : Hp} {a : Addr} {o : HO} (e : Same H H') (h : Rd H a o) : Rd H' a o := by
  rcases h with h | ⟨u, h⟩
  · exact .inl (e _ _ h)
  · exact .inr ⟨u, e _ _ h⟩
theorem same_t {K : PySem.W.Frag} {H H' : Hp} {a : Addr} {xs : List V} (e : Same H H') (h : SqT K H a xs) : SqT K H' a xs := by
  rcases h with h | h
  · exact .inl (same_rd e h)
  · exact .inr h
/-- the same but for locks of dicts -/
def IsDct : HO → Prop
  | .dK _ => True
  | .dT _ => True
  | .frz _ (.dK _) => True
  | .frz _ (.dT _) => True
  | _ => False
structure SameU (G G' : Hp) : Prop where
  keep : ∀ a o, G a = some o → ¬ IsDct o → G' a = some o
  dk : ∀ a us, Rd G a (.dK us) → Rd G' a (.dK us)
  dt : ∀ a us, Rd G a (.dT us) → Rd G' a (.dT us)
theorem SameU.rdl {H H' : Hp} {a : Addr} {xs : List V} (e : SameU H H') (h : Rd H a (.lst xs)) : Rd H' a (.lst xs) := h.imp (fun h => e.keep _ _ h id) fun ⟨u, h⟩ => ⟨u, e.keep _ _ h id⟩
theorem SameU.rdt {H H' : Hp} {a : Addr} {xs : List V} (e : SameU H H') (h : Rd H a (.tup xs)) : Rd H' a (.tup xs) := h.imp (fun h => e.keep _ _ h id) fun ⟨u, h⟩ => ⟨u, e.keep _ _ h id⟩
theorem SameU.seq {K : PySem.W.Frag} {H H' : Hp} {a : Addr} {xs : List V} (e : SameU H H') (h : SqL K H a xs) : SqL K H' a xs := h.imp e.rdl id
theorem SameU.tup {K : PySem.W.Frag} {H H' : Hp} {a : Addr} {xs : List V} (e : SameU H H') (h : SqT K H a xs) : SqT K H' a xs := h.imp e.rdt id
section
variable {c : Ctx} {G G' : Hp}
mutual
theorem DR.same (e : Same G G') : ∀ {d : D} {v : V}, DR c G d v → DR c G' d v
  | .non, _, h => h
  | .bl _, _, h => h
  | .int _, _, h => h
  | .str _, _, h => h
  | .fn _, _, h => h
  | .list _, _, ⟨a, vs, h1, h2, h3⟩ => ⟨a, vs, h1, e _ _ h2, DRs.same e h3⟩
  | .scr _, _, ⟨a, vs, h1, h2, h3⟩ => ⟨a, vs, h1, e.seq h2, DRs.same e h3⟩
  | .tup _, _, ⟨a, vs, h1, h2, h3⟩ => ⟨a, vs, h1, e _ _ h2, DRs.same e h3⟩
  | .kt _, _, ⟨a, vs, h1, h2, h3⟩ => ⟨a, vs, h1, same_t e h2, DRs.same e h3⟩
  | .dK _, _, ⟨a, vs, h1, h2, h3⟩ => ⟨a, vs, h1, same_rd e h2, DRk.same e h3⟩
  | .dT _, _, ⟨a, vs, h1, h2, h3⟩ => ⟨a, vs, h1, same_rd e h2, DRt.same e h3⟩
  | .ins _ _, _, ⟨a, C, dx, us, h1, h2, h3, h4⟩ => ⟨a, C, dx, us, h1, e _ _ h2, h3, DRf.same e h4⟩
theorem DRs.same (e : Same G G') : ∀ {ds : List D} {vs : List V}, DRs c G ds vs → DRs c G' ds vs
  | [], _, h => h
  | _ :: _, _, ⟨v, r, h1, h2, h3⟩ => ⟨v, r, h1, DR.same e h2, DRs.same e h3⟩
theorem DRk.same (e : Same G G') : ∀ {ds : List (Key × D)} {vs : List (Key × V)}, DRk c G ds vs → DRk c G' ds vs
  | [], _, h => h
  | (_, _) :: _, _, ⟨v, r, h1, h2, h3⟩ => ⟨v, r, h1, DR.same e h2, DRk.same e h3⟩
theorem DRt.same (e : Same G G') : ∀ {ds : List (List Key × D)} {vs : List (List Key × V)}, DRt c G ds vs → DRt c G' ds vs
  | [], _, h => h
  | (_, _) :: _, _, ⟨v, r, h1, h2, h3⟩ => ⟨v, r, h1, DR.same e h2, DRt.same e h3⟩
theorem DRf.same (e : Same G G') : ∀ {ds : List (Str × D)} {vs : List (Str × V)}, DRf c G ds vs → DRf c G' ds vs
  | [], _, h => h
  | (_, _) :: _, _, ⟨v, r, h1, h2, h3⟩ => ⟨v, r, h1, DR.same e h2, DRf.same e h3⟩
end
mutual
theorem DR.sameU (e : SameU G G') : ∀ {d : D} {v : V}, DR c G d v → DR c G' d v
  | .non, _, h => h
  | .bl _, _, h => h
  | .int _, _, h => h
  | .str _, _, h => h
  | .fn _, _, h => h
  | .list _, _, ⟨a, vs, h1, h2, h3⟩ => ⟨a, vs, h1, e.keep _ _ h2 id, DRs.sameU e h3⟩
  | .scr _, _, ⟨a, vs, h1, h2, h3⟩ => ⟨a, vs, h1, e.seq h2, DRs.sameU e h3⟩
  | .tup _, _, ⟨a, vs, h1, h2, h3⟩ => ⟨a, vs, h1, e.keep _ _ h2 id, DRs.sameU e h3⟩
  | .kt _, _, ⟨a, vs, h1, h2, h3⟩ => ⟨a, vs, h1, e.tup h2, DRs.sameU e h3⟩
  | .dK _, _, ⟨a, vs, h1, h2, h3⟩ => ⟨a, vs, h1, e.dk _ _ h2, DRk.sameU e h3⟩
  | .dT _, _, ⟨a, vs, h1, h2, h3⟩ => ⟨a, vs, h1, e.dt _ _ h2, DRt.sameU e h3⟩
  | .ins _ _, _, ⟨a, C, dx, us, h1, h2, h3, h4⟩ => ⟨a, C, dx, us, h1, e.keep _ _ h2 id, h3, DRf.sameU e h4⟩
theorem DRs.sameU (e : SameU G G') : ∀ {ds : List D} {vs : List V}, DRs c G ds vs → DRs c G' ds vs
  | [], _, h => h
  | _ :: _, _, ⟨v, r, h1, h2, h3⟩ => ⟨v, r, h1, DR.sameU e h2, DRs.sameU e h3⟩
theorem DRk.sameU (e : SameU G G') : ∀ {ds : List (Key × D)} {vs : List (Key × V)}, DRk c G ds vs → DRk c G' ds vs
  | [], _, h => h
  | (_, _) :: _, _, ⟨v, r, h1, h2, h3⟩ => ⟨v, r, h1, DR.sameU e h2, DRk.sameU e h3⟩
theorem DRt.sameU (e : SameU G G') : ∀ {ds : List (List Key × D)} {vs : List (List Key × V)}, DRt c G ds vs → DRt c G' ds vs
  | [], _, h => h
  | (_, _) :: _, _, ⟨v, r, h1, h2, h3⟩ => ⟨v, r, h1, DR.sameU e h2, DRt.sameU e h3⟩
theorem DRf.sameU (e : SameU G G') : ∀ {ds : List (Str × D)} {vs : List (Str × V)}, DRf c G ds vs → DRf c G' ds vs
  | [], _, h => h
  | (_, _) :: _, _, ⟨v, r, h1, h2, h3⟩ => ⟨v, r, h1, DR.sameU e h2, DRf.sameU e h3⟩
end
theorem DRs.pair : ∀ {ds : List D} {vs : List V}, DRs c G ds vs → Paired (fun v d => DR c G d v) vs ds
  | [], _, h => by cases h; exact .nil
  | _ :: _, _, ⟨v, r, h1, h2, h3⟩ => by cases h1; exact .cons h2 h3.pair
theorem DRs.of : ∀ {ds : List D} {vs : List V}, Paired (fun v d => DR c G d v) vs ds → DRs c G ds vs
  | _, _, .nil => rfl
  | _, _, .cons h t => ⟨_, _, rfl, h, DRs.of t⟩
theorem DRk.pair : ∀ {ds : List (Key × D)} {vs : List (Key × V)}, DRk c G ds vs → Paired (KD fun v d => DR c G d v) vs ds
  | [], _, h => by cases h; exact .nil
  | (_, _) :: _, _, ⟨v, r, h1, h2, h3⟩ => by cases h1; exact .cons ⟨rfl, h2⟩ h3.pair
theorem DRk.of : ∀ {ds : List (Key × D)} {vs : List (Key × V)}, Paired (KD fun v d => DR c G d v) vs ds → DRk c G ds vs
  | _, _, .nil => rfl
  | _, _, .cons (a := (_, _)) (b := (_, _)) ⟨e, h⟩ t => by cases e; exact ⟨_, _, rfl, h, DRk.of t⟩
theorem DRt.pair : ∀ {ds : List (List Key × D)} {vs : List (List Key × V)}, DRt c G ds vs → Paired (KD fun v d => DR c G d v) vs ds
  | [], _, h => by cases h; exact .nil
  | (_, _) :: _, _, ⟨v, r, h1, h2, h3⟩ => by cases h1; exact .cons ⟨rfl, h2⟩ h3.pair
theorem DRt.of : ∀ {ds : List (List Key × D)} {vs : List (List Key × V)}, Paired (KD fun v d => DR c G d v) vs ds → DRt c G ds vs
  | _, _, .nil => rfl
  | _, _, .cons (a := (_, _)) (b := (_, _)) ⟨e, h⟩ t => by cases e; exact ⟨_, _, rfl, h, DRt.of t⟩
theorem DRf.pair : ∀ {ds : List (Str × D)} {vs : List (Str × V)}, DRf c G ds vs → Paired (KD fun v d => DR c G d v) vs ds
  | [], _, h => by cases h; exact .nil
  | (_, _) :: _, _, ⟨v, r, h1, h2, h3⟩ => by cases h1; exact .cons ⟨rfl, h2⟩ h3.pair
theorem DRf.of : ∀ {ds : List (Str × D)} {vs : List (Str × V)}, Paired (KD fun v d => DR c G d v) vs ds → DRf c G ds vs
  | _, _, .nil => rfl
  | _, _, .cons (a := (_, _)) (b := (_, _)) ⟨e, h⟩ t => by cases e; exact ⟨_, _, rfl, h, DRf.of t⟩
end

/-! ### pairs -/
section
variable {α β γ : Type} {F G : α → β → Prop}
theorem paired_get : ∀ {l₁ : List α} {l₂ : List β} {i : Nat} {b : β}, Paired F l₁ l₂ → l₂[i]? = some b → ∃ a, l₁[i]? = some a ∧ F a b
  | _, _, _, _, .nil, e => by simp at e
  | _, _, 0, _, .cons r _, e => by simp at e; subst e; exact ⟨_, rfl, r⟩
  | _, _, i + 1, _, .cons _ t, e => by simpa using paired_get (i := i) t (by simpa using e)
theorem paired_getL : ∀ {l₁ : List α} {l₂ : List β} {i : Nat} {a : α}, Paired F l₁ l₂ → l₁[i]? = some a → ∃ b, l₂[i]? = some b ∧ F a b
  | _, _, _, _, .nil, e => by simp at e
  | _, _, 0, _, .cons r _, e => by simp at e; subst e; exact ⟨_, rfl, r⟩
  | _, _, i + 1, _, .cons _ t, e => by simpa using paired_getL (i := i) t (by simpa using e)
theorem paired_append : ∀ {l₁ : List α} {l₂ : List β} {m₁ : List α} {m₂ : List β}, Paired F l₁ l₂ → Paired F m₁ m₂ → Paired F (l₁ ++ m₁) (l₂ ++ m₂)
  | _, _, _, _, .nil, h => h
  | _, _, _, _, .cons r t, h => .cons r (paired_append t h)
theorem paired_take : ∀ (n : Nat) {l₁ : List α} {l₂ : List β}, Paired F l₁ l₂ → Paired F (l₁.take n) (l₂.take n)
  | 0, _, _, _ => by rw [List.take_zero, List.take_zero]; exact .nil
  | _ + 1, _, _, .nil => .nil
  | n + 1, _, _, .cons r t => .cons r (paired_take n t)
theorem paired_drop : ∀ (n : Nat) {l₁ : List α} {l₂ : List β}, Paired F l₁ l₂ → Paired F (l₁.drop n) (l₂.drop n)
  | 0, _, _, h => h
  | _ + 1, _, _, .nil => .nil
  | n + 1, _, _, .cons _ t => paired_drop n t
theorem paired_set {a : α} {b : β} (r : F a b) : ∀ (n : Nat) {l₁ : List α} {l₂ : List β}, Paired F l₁ l₂ → Paired F (l₁.set n a) (l₂.set n b)
  | _, _, _, .nil => .nil
  | 0, _, _, .cons _ t => .cons r t
  | n + 1, _, _, .cons q t => .cons q (paired_set r n t)
theorem paired_imp : ∀ {l₁ : List α} {l₂ : List β}, Paired F l₁ l₂ → (∀ a b, F a b → G a b) → Paired G l₁ l₂
  | _, _, .nil, _ => .nil
  | _, _, .cons r t, f => .cons (f _ _ r) (paired_imp t f)
theorem paired_map {δ : Type} {F : α → δ → Prop} (f : β → δ) : ∀ {l₁ : List α} {l₂ : List β}, Paired (fun a b => F a (f b)) l₁ l₂ → Paired F l₁ (l₂.map f)
  | _, _, .nil => .nil
  | _, _, .cons r t => .cons r (paired_map f t)
theorem paired_unmap {δ : Type} {F : α → δ → Prop} (f : β → δ) : ∀ {l₁ : List α} {l₂ : List β}, Paired F l₁ (l₂.map f) → Paired (fun a b => F a (f b)) l₁ l₂
  | _, [], h => by cases h; exact .nil
  | _, _ :: _, h => by cases h with | cons r t => exact .cons r (paired_unmap f t)
theorem paired_reverse {l₁ : List α} {l₂ : List β} (h : Paired F l₁ l₂) : Paired F l₁.reverse l₂.reverse := by
  induction h with
  | nil => exact .nil
  | cons r _ ih => rw [List.reverse_cons, List.reverse_cons]; exact paired_append ih (.cons r .nil)
end

/-! ### the state -/
def RA (c : Ctx) (w : Wd) (n : Nat) (v : V) : A → Prop
  | .d x => DR c w.G x v
  | .c i => i < n ∧ v = .ref (w.E i)
def CR (c : Ctx) (w : Wd) (n : Nat) (H : Hp) (a : Addr) : Cell → Prop
  | .lst xs => w.G a = none ∧ ∃ vs, H a = some (.lst vs) ∧ Paired (RA c w n) vs xs
  | .dK xs => w.G a = none ∧ ∃ us, H a = some (.dK us) ∧ Paired (KD (RA c w n)) us xs
  | .dT xs => w.G a = none ∧ ∃ us, H a = some (.dT us) ∧ Paired (KD (RA c w n)) us xs
  | .ins x fs => w.G a = none ∧ ∃ C dx us, H a = some (.ins C dx us) ∧ c.mg x = some (.ref C) ∧ Paired (KD (RA c w n)) us fs
  | .fz x => DR c w.G x (.ref a) ∧ H a ≠ none
structure RelS (c : Ctx) (w : Wd) (st : Store) (H : Hp) : Prop where
  same : Same w.G H
  inj : ∀ i j, i < st.length → j < st.length → w.E i = w.E j → i = j
  cell : ∀ i x, st[i]? = some x → CR c w st.length H (w.E i) x
structure Rel (c : Ctx) (w : Wd) (σa : Slots) (st : Store) (σ : L2.St) (H : Hp) : Prop where
  rs : RelS c w st H
  len : σ.length = σa.length
  sl : ∀ (i : Nat) (a : A), σa[i]? = some (some a) → ∃ v, σ[i]? = some (some v) ∧ RA c w st.length v a
structure Ext (w : Wd) (n : Nat) (w' : Wd) (n' : Nat) : Prop where
  same : Same w.G w'.G
  cells : ∀ i, i < n → w'.E i = w.E i
  le : n ≤ n'
theorem Ext.refl (w : Wd) (n : Nat) : Ext w n w n := ⟨.refl _, fun _ _ => rfl, Nat.le_refl _⟩
theorem Ext.trans {w w1 w2 : Wd} {n n1 n2 : Nat} (a : Ext w n w1 n1) (b : Ext w1 n1 w2 n2) : Ext w n w2 n2 :=
  ⟨a.same.trans b.same, fun i h => (b.cells i (Nat.lt_of_lt_of_le h a.le)).trans (a.cells i h), Nat.le_trans a.le b.le⟩
section
variable {c : Ctx} {w w' : Wd} {n n' : Nat} {H H' : Hp} {st : Store} {σa : Slots} {σ : L2.St}
theorem RA.ext {v : V} (e : Ext w n w' n') : ∀ {a : A}, RA c w n v a → RA c w' n' v a
  | .d _, h => DR.same e.same h
  | .c i, ⟨h1, h2⟩ => ⟨Nat.lt_of_lt_of_le h1 e.le, by rw [e.cells i h1]; exact h2⟩
theorem ras_ext {vs : List V} {as : List A} (e : Ext w n w' n') (h : Paired (RA c w n) vs as) : Paired (RA c w' n') vs as := paired_imp h fun _ _ => RA.ext e
theorem kas_ext {κ : Type} {vs : List (κ × V)} {as : List (κ × A)} (e : Ext w n w' n') (h : Paired (KD (RA c w n)) vs as) : Paired (KD (RA c w' n')) vs as := paired_imp h fun _ _ q => ⟨q.1, RA.ext e q.2⟩
/-- a cell's object is tracked -/
theorem CR.there {a : Addr} (sm : Same w.G H) : ∀ {x : Cell}, CR c w n H a x → H a ≠ none
  | .lst _, ⟨_, _, h, _⟩ => by rw [h]; exact fun z => nomatch z
  | .dK _, ⟨_, _, h, _⟩ => by rw [h]; exact fun z => nomatch z
  | .dT _, ⟨_, _, h, _⟩ => by rw [h]; exact fun z => nomatch z
  | .ins _ _, ⟨_, _, _, _, h, _⟩ => by rw [h]; exact fun z => nomatch z
  | .fz _, ⟨_, h⟩ => h
/-- a cell stays: its object does, the ghost grows elsewhere -/
theorem CR.stay {a : Addr} (e : Ext w n w' n') (hG : w.G a = none → w'.G a = none) (hH : H' a = H a) : ∀ {x : Cell}, CR c w n H a x → CR c w' n' H' a x
  | .lst _, ⟨g, vs, h, p⟩ => ⟨hG g, vs, by rw [hH]; exact h, ras_ext e p⟩
  | .dK _, ⟨g, vs, h, p⟩ => ⟨hG g, vs, by rw [hH]; exact h, kas_ext e p⟩
  | .dT _, ⟨g, vs, h, p⟩ => ⟨hG g, vs, by rw [hH]; exact h, kas_ext e p⟩
  | .ins _ _, ⟨g, C, dx, us, h, m, p⟩ => ⟨hG g, C, dx, us, by rw [hH]; exact h, m, kas_ext e p⟩
  | .fz _, ⟨h, t⟩ => ⟨DR.same e.same h, by rw [hH]; exact t⟩
theorem RelS.ne (r : RelS c w st H) {i : Nat} {x : Cell} {p : Addr} (h : st[i]? = some x) (hp : H p = none) : w.E i ≠ p := fun z => by
  have := (r.cell i x h).there r.same
  rw [z] at this
  exact this hp
theorem RelS.lt {i : Nat} {x : Cell} (h : st[i]? = some x) : i < st.length := (List.getElem?_eq_some_iff.mp h).1
theorem RelS.get {i : Nat} (h : i < st.length) : ∃ x, st[i]? = some x := ⟨_, List.getElem?_eq_getElem h⟩
/-- new data at p -/
def Wd.put (w : Wd) (p : Addr) (o : HO) : Wd := ⟨upd w.G p o, w.E⟩
theorem same_upd {G : Hp} {p : Addr} {o : HO} (h : G p = none) : Same G (upd G p o) := fun b x e => by
  rw [upd_ne (ne_of_none e h)]
  exact e
theorem same_upd2 {G H : Hp} {p : Addr} {o : HO} (s : Same G H) : Same (upd G p o) (upd H p o) := fun b x e => by
  by_cases hb : b = p
  · subst hb; rw [upd_same] at e ⊢; exact e
  · rw [upd_ne hb] at e ⊢; exact s b x e
theorem Wd.put_ext (w : Wd) {p : Addr} {o : HO} {n : Nat} (h : w.G p = none) : Ext w n (w.put p o) n := ⟨same_upd h, fun _ _ => rfl, Nat.le_refl _⟩
theorem RelS.put (r : RelS c w st H) {p : Addr} {o : HO} (hp : H p = none) : RelS c (w.put p o) st (upd H p o) where
  same := same_upd2 r.same
  inj := r.inj
  cell := fun i x h => by
    have ne := r.ne h hp
    exact (r.cell i x h).stay (w.put_ext (r.same.free hp)) (fun g => by show upd w.G p o (w.E i) = none; rw [upd_ne ne]; exact g) (upd_ne ne)
/-- a new cell at p -/
def Wd.cell (w : Wd) (n : Nat) (p : Addr) : Wd := ⟨w.G, fun i => if i = n then p else w.E i⟩
theorem Wd.cell_at (w : Wd) (n : Nat) (p : Addr) : (w.cell n p).E n = p := if_pos rfl
theorem Wd.cell_old (w : Wd) {n i : Nat} {p : Addr} (h : i < n) : (w.cell n p).E i = w.E i := if_neg (Nat.ne_of_lt h)
theorem Wd.cell_ext (w : Wd) (n : Nat) (p : Addr) : Ext w n (w.cell n p) (n + 1) := ⟨.refl _, fun _ h => w.cell_old h, Nat.le_succ _⟩
theorem RelS.push (r : RelS c w st H) {p : Addr} {o : HO} {x : Cell} (hp : H p = none) (hx : CR c (w.cell st.length p) (st.length + 1) (upd H p o) p x) : RelS c (w.cell st.length p) (st ++ [x]) (upd H p o) where
  same := fun b y e => by
    have e : w.G b = some y := e
    rw [upd_ne fun z => by rw [z, r.same.free hp] at e; cases e]
    exact r.same b y e
  inj := fun i j hi hj e => by
    rw [List.length_append, List.length_singleton] at hi hj
    by_cases h1 : i = st.length
    · by_cases h2 : j = st.length
      · rw [h1, h2]
      · subst h1
        rw [w.cell_at, w.cell_old (by omega)] at e
        obtain ⟨y, hy⟩ := RelS.get (st := st) (i := j) (by omega)
        exact absurd e.symm (r.ne hy hp)
    · by_cases h2 : j = st.length
      · subst h2
        rw [w.cell_at, w.cell_old (by omega)] at e
        obtain ⟨y, hy⟩ := RelS.get (st := st) (i := i) (by omega)
        exact absurd e (r.ne hy hp)
      · rw [w.cell_old (by omega), w.cell_old (by omega)] at e
        exact r.inj i j (by omega) (by omega) e
  cell := fun i y h => by
    rw [List.length_append, List.length_singleton]
    by_cases hi : i < st.length
    · rw [List.getElem?_append_left hi] at h
      rw [w.cell_old hi]
      exact (r.cell i y h).stay (w.cell_ext _ _) (fun g => g) (upd_ne (r.ne h hp))
    · have hl := RelS.lt h
      rw [List.length_append, List.length_singleton] at hl
      have : i = st.length := by omega
      subst this
      rw [List.getElem?_append_right (Nat.le_refl _), Nat.sub_self] at h
      cases h
      rw [w.cell_at]
      exact hx
/-- a cell is written -/
theorem RelS.write (r : RelS c w st H) {i : Nat} {x y : Cell} {o : HO} (h : st[i]? = some x) (g : w.G (w.E i) = none) (hy : CR c w st.length (upd H (w.E i) o) (w.E i) y) : RelS c w (st.set i y) (upd H (w.E i) o) where
  same := fun b z e => by
    rw [upd_ne fun q => by rw [q, g] at e; cases e]
    exact r.same b z e
  inj := fun j k hj hk => by
    rw [List.length_set] at hj hk
    exact r.inj j k hj hk
  cell := fun j z hz => by
    rw [List.length_set]
    by_cases e : j = i
    · subst e
      rw [List.getElem?_set_self (RelS.lt h)] at hz
      cases hz
      exact hy
    · rw [List.getElem?_set_ne (Ne.symm e)] at hz
      exact (r.cell j z hz).stay (Ext.refl _ _) (fun g => g) (upd_ne fun q => e (r.inj j i (RelS.lt hz) (RelS.lt h) q))
theorem Rel.put (r : Rel c w σa st σ H) {p : Addr} {o : HO} (hp : H p = none) : Rel c (w.put p o) σa st σ (upd H p o) :=
  ⟨r.rs.put hp, r.len, fun i a h => let ⟨v, e, q⟩ := r.sl i a h; ⟨v, e, q.ext (w.put_ext (r.rs.same.free hp))⟩⟩
theorem Rel.push (r : Rel c w σa st σ H) {p : Addr} {o : HO} {x : Cell} (hp : H p = none) (hx : CR c (w.cell st.length p) (st.length + 1) (upd H p o) p x) : Rel c (w.cell st.length p) σa (st ++ [x]) σ (upd H p o) :=
  ⟨r.rs.push hp hx, r.len, fun i a h => let ⟨v, e, q⟩ := r.sl i a h; ⟨v, e, by rw [List.length_append]; exact q.ext (w.cell_ext _ _)⟩⟩
theorem Rel.write (r : Rel c w σa st σ H) {i : Nat} {x y : Cell} {o : HO} (h : st[i]? = some x) (g : w.G (w.E i) = none) (hy : CR c w st.length (upd H (w.E i) o) (w.E i) y) : Rel c w σa (st.set i y) σ (upd H (w.E i) o) :=
  ⟨r.rs.write h g hy, r.len, by rw [List.length_set]; exact r.sl⟩
theorem Rel.set (r : Rel c w σa st σ H) {i : Nat} {v : V} {a : A} (h : RA c w st.length v a) : Rel c w (σa.set i (some a)) st (σ.set i (some v)) H :=
  ⟨r.rs, by rw [List.length_set, List.length_set]; exact r.len, fun j b hb => by
    by_cases e : j = i
    · subst e
      by_cases hl : j < σa.length
      · rw [List.getElem?_set_self hl] at hb
        cases hb
        exact ⟨v, List.getElem?_set_self (by rw [r.len]; exact hl), h⟩
      · rw [List.getElem?_eq_none (by rw [List.length_set]; omega)] at hb
        cases hb
    · rw [List.getElem?_set_ne (Ne.symm e)] at hb
      obtain ⟨u, e1, q⟩ := r.sl j b hb
      exact ⟨u, by rw [List.getElem?_set_ne (Ne.symm e)]; exact e1, q⟩⟩
/-- a slot forgotten -/
theorem Rel.drop (r : Rel c w σa st σ H) {σb : Slots} (hl : σb.length = σa.length) (h : ∀ (i : Nat) (a : A), σb[i]? = some (some a) → σa[i]? = some (some a)) : Rel c w σb st σ H :=
  ⟨r.rs, by rw [r.len, hl], fun i a e => r.sl i a (h i a e)⟩
end
end Am
/-! ### Am: readings by the machine; expressions -/
namespace Am
open PySem PySem.Spec PyProof.Rows L2
section
variable {X : Cx} {e : Expr} {st : Stmt} {ss : List Stmt} {es : List Expr}
theorem pe_imp {t t' : TE} (h : PE X e t) (i : ∀ σ H Q, t' σ H Q → t σ H Q) : PE X e t' := ⟨fun pins s σ H Q I q => h.run pins s σ H Q I (i σ H Q q)⟩
theorem pt_imp {t t' : TT} (h : PT X e t) (i : ∀ σ H Q, t' σ H Q → t σ H Q) : PT X e t' := ⟨fun pins s σ H Q I q => h.run pins s σ H Q I (i σ H Q q)⟩
theorem pw_imp {t t' : TT} (h : PW X e t) (i : ∀ σ H Q, t' σ H Q → t σ H Q) : PW X e t' := ⟨fun wh pins s σ H Q I q => h.run wh pins s σ H Q I (i σ H Q q)⟩
theorem pa_imp {t t' : TA} (h : PA X es t) (i : ∀ σ H Q, t' σ H Q → t σ H Q) : PA X es t' := ⟨fun p pins s σ H Q I q => h.run p pins s σ H Q I (i σ H Q q)⟩
theorem ps_imp {t t' : TS} (h : PS X st t) (i : ∀ D σ H, t' D σ H → t D σ H) : PS X st t' := ⟨fun pins s σ H D I q => h.run pins s σ H D I (i D σ H q)⟩
theorem pss_imp {t t' : TS} (h : PSs X ss t) (i : ∀ D σ H, t' D σ H → t D σ H) : PSs X ss t' := ⟨fun pins s σ H D I q => h.run pins s σ H D I (i D σ H q)⟩
end
/-- how an exception lies -/
def RX (c : Ctx) (w : Wd) (x : Exn) (cls : Value) (d : Option Addr) : Prop :=
  ∃ C, cls = .ref C ∧ c.mg x.cls = some (.ref C) ∧ match x.fs with
    | none => d = none
    | some fs => ∃ a us, d = some a ∧ w.G a = some (.xd us) ∧ DRf c w.G fs us
def Post {α β : Type} (c : Ctx) (w : Wd) (n : Nat) (σa : Slots) (σ : L2.St) (R : Wd → Nat → β → α → Prop) (W : WX) (Q : β → Hp → Prop) : Res α → Prop
  | .ok a st => ∀ v w' H', Ext w n w' st.length → Rel c w' σa st σ H' → R w' st.length v a → Q v H'
  | .ex x st => ∀ cls d w' H', Ext w n w' st.length → Rel c w' σa st σ H' → RX c w' x cls d → W cls d σ H'
  | .no => False
section
variable {α β α' β' : Type} {c : Ctx} {w w1 : Wd} {n n1 : Nat} {σa : Slots} {st : Store} {σ : L2.St} {H : Hp} {W : WX}
theorem Post.mono {R : Wd → Nat → β → α → Prop} {Q : β → Hp → Prop} (e : Ext w n w1 n1) : ∀ {r : Res α}, Post c w n σa σ R W Q r → Post c w1 n1 σa σ R W Q r
  | .ok _ _, h => fun v w' H' e' => h v w' H' (e.trans e')
  | .ex _ _, h => fun v d w' H' e' => h v d w' H' (e.trans e')
  | .no, h => h
theorem Post.bind {R : Wd → Nat → β → α → Prop} {R' : Wd → Nat → β' → α' → Prop} {Q : β → Hp → Prop} {Q' : β' → Hp → Prop} {k : α' → Store → Res α} :
    ∀ {r : Res α'}, Post c w n σa σ R W Q (r.bind k) → (∀ v a st1 w1 H1, Ext w n w1 st1.length → Rel c w1 σa st1 σ H1 → R' w1 st1.length v a → Post c w1 st1.length σa σ R W Q (k a st1) → Q' v H1) → Post c w n σa σ R' W Q' r
  | .ok a st1, h, f => fun v w1 H1 e1 r1 ra => f v a st1 w1 H1 e1 r1 ra (Post.mono e1 h)
  | .ex _ _, h, _ => h
  | .no, h, _ => h
/-- nothing is changed -/
theorem Post.here {R : Wd → Nat → β → α → Prop} {Q : β → Hp → Prop} {a : α} {v : β} (h : Post c w st.length σa σ R W Q (.ok a st)) (r : Rel c w σa st σ H) (ra : R w st.length v a) : Q v H := h v w H (Ext.refl _ _) r ra
end
section
variable (c : Ctx) (W : WX)
def tM (f : ME) : TE := fun σ H Q => ∃ w σa st, Rel c w σa st σ H ∧ Post c w st.length σa σ (RA c) W Q (f σa st)
def tT (f : MT) : TT := fun σ H Q => ∃ w σa st, Rel c w σa st σ H ∧ Post c w st.length σa σ (fun _ _ b b' => b = b') W Q (f σa st)
def tMA (f : MA) : TA := fun σ H Q => ∃ w σa st, Rel c w σa st σ H ∧ Post c w st.length σa σ (fun w n => Paired (RA c w n)) W Q (f σa st)
end
/-- the module's facts are those of c -/
structure Fits (X : Cx) (c : Ctx) : Prop where
  K : X.K = c.K
  mg : X.mg = c.mg

/-! ### the machine's expressions -/
def mVar (i : Nat) : ME := fun σ st => match σ[i]? with
  | some (some a) => .ok a st
  | _ => .no
def mC (x : D) : ME := fun _ st => .ok (.d x) st
def mBin (g : A → A → Store → Res A) (fa fb : ME) : ME := fun σ st => (fa σ st).bind fun x st1 => (fb σ st1).bind fun y st2 => g x y st2
def mUn (g : A → Store → Res A) (fa : ME) : ME := fun σ st => (fa σ st).bind g
def mTst (f : ME) : MT := fun σ st => (f σ st).bind fun a st1 => match a with
  | .d (.bl b) => .ok b st1
  | _ => .no
def mNil : MA := fun _ st => .ok [] st
def mCons (fa : ME) (fr : MA) : MA := fun σ st => (fa σ st).bind fun x st1 => (fr σ st1).bind fun xs st2 => .ok (x :: xs) st2
section
variable {X : Cx} {c : Ctx} {W : WX} {a b e : Expr} {es rest : List Expr} {fa fb f : ME} {fr : MA} {pos : Pos}
theorem e_var {i : Nat} {x : Str} (hN : X.N[i]? = some x := by rfl) (hv : Vis X.env.scope x := by first | exact Or.inl rfl | exact Or.inr (Or.inl rfl) | exact Or.inr (Or.inr rfl)) (hd : (x == ("__debug__" : Str)) = false := by decide)
    (hcd : (x == ("__classdict__" : Str)) = false := by decide) : PE X (.Name x pos) (tM c W (mVar i)) :=
  pe_imp (pe_var hN hv hd hcd) fun σ H Q ⟨w, σa, st, r, p⟩ => by
    unfold mVar at p
    split at p
    · rename_i a h
      obtain ⟨v, e, ra⟩ := r.sl i a h
      exact ⟨v, e, p.here r ra⟩
    · exact p.elim
theorem e_c {v : V} {x : D} (h : PE X e (tC v)) (r : ∀ G, DR c G x v) : PE X e (tM c W (mC x)) := pe_imp h fun _ _ _ ⟨w, _, _, rl, p⟩ => p.here rl (r w.G)
theorem e_int {i j} : PE X (.Constant (.int i) j pos) (tM c W (mC (.int i))) := e_c (v := V.int i) pe_int fun _ => rfl
theorem e_bl {i j} : PE X (.Constant (.bool i) j pos) (tM c W (mC (.bl i))) := e_c (v := V.bl i) pe_bl fun _ => rfl
theorem e_str {i j} : PE X (.Constant (.str i) j pos) (tM c W (mC (.str i))) := e_c (v := V.str i) pe_str fun _ => rfl
theorem e_non {j} : PE X (.Constant .none j pos) (tM c W (mC .non)) := e_c (v := V.non) pe_non fun _ => rfl

/-! a two-place operation by values -/
def OpA (c : Ctx) (r : R2) (g : A → A → Store → Res A) : Prop := ∀ (w : Wd) (σa : Slots) (st : Store) (σ : L2.St) (H : Hp) (x y : A) (v u : V) (W : WX) (Q : VK),
  Rel c w σa st σ H → RA c w st.length v x → RA c w st.length u y → Post c w st.length σa σ (RA c) W Q (g x y st) → r v u H Q
theorem OpA.or1 {r r' : R2} {g : A → A → Store → Res A} (h : OpA c r g) : OpA c (fun x y H Q => r x y H Q ∨ r' x y H Q) g := fun w σa st σ H x y v u W Q rl rx ry p => .inl (h w σa st σ H x y v u W Q rl rx ry p)
def UnA (c : Ctx) (r : V → Hp → VK → Prop) (g : A → Store → Res A) : Prop := ∀ (w : Wd) (σa : Slots) (st : Store) (σ : L2.St) (H : Hp) (x : A) (v : V) (W : WX) (Q : VK),
  Rel c w σa st σ H → RA c w st.length v x → Post c w st.length σa σ (RA c) W Q (g x st) → r v H Q
theorem entail_op {r : R2} {g : A → A → Store → Res A} (hg : OpA c r g) (σ : L2.St) (H : Hp) (Q : VK) : tM c W (mBin g fa fb) σ H Q → tOp r (tM c W fa) (tM c W fb) σ H Q := fun ⟨w, σa, st, rl, p⟩ =>
  ⟨w, σa, st, rl, p.bind fun v x st1 w1 H1 _ rl1 rx p1 => ⟨w1, σa, st1, rl1, p1.bind fun u y st2 w2 H2 e2 rl2 ry p2 => hg w2 σa st2 σ H2 x y v u W Q rl2 (rx.ext e2) ry p2⟩⟩
theorem entail_un {r : V → Hp → VK → Prop} {g : A → Store → Res A} (hg : UnA c r g) (σ : L2.St) (H : Hp) (Q : VK) : tM c W (mUn g fa) σ H Q → tUn r (tM c W fa) σ H Q := fun ⟨w, σa, st, rl, p⟩ =>
  ⟨w, σa, st, rl, p.bind fun v x st1 w1 H1 _ rl1 rx p1 => hg w1 σa st1 σ H1 x v W Q rl1 rx p1⟩
theorem entail_tst {Q : Bool → Hp → Prop} {σ : L2.St} {H : Hp} : tT c W (mTst f) σ H Q → tM c W f σ H fun x H' => ∃ k, x = .bl k ∧ Q k H' := fun ⟨w, σa, st, rl, p⟩ =>
  ⟨w, σa, st, rl, p.bind fun v x st1 w1 H1 _ rl1 rx p1 => by
    split at p1
    · exact ⟨_, rx, p1.here rl1 rfl⟩
    · exact p1.elim⟩
theorem e_bin {op : Operator} {r : R2} {g : A → A → Store → Res A} (ho : OpR X (binaryOp op) r) (hg : OpA c r g) (ha : PE X a (tM c W fa)) (hb : PE X b (tM c W fb)) : PE X (.BinOp a op b pos) (tM c W (mBin g fa fb)) :=
  pe_imp (pe_op ho ha hb) (entail_op hg)
theorem e_un {op : UnaryOp} {r : V → Hp → VK → Prop} {g : A → Store → Res A} (ho : UnR X (unaryOp op) r) (hg : UnA c r g) (ha : PE X a (tM c W fa)) : PE X (.UnaryOp op a pos) (tM c W (mUn g fa)) :=
  pe_imp (pe_un ho ha) (entail_un hg)
theorem e_cmp {op : CmpOp} {r : R2} {g : A → A → Store → Res A} (ho : OpR X (compareOp op) r) (hg : OpA c r g) (ha : PE X a (tM c W fa)) (hb : PE X b (tM c W fb)) (hm : behindInMarks op b = false := by rfl) :
    PE X (.Compare a [op] [b] pos) (tM c W (mBin g fa fb)) := pe_imp (pe_cmpR ho ha hb hm) (entail_op hg)
theorem t_cmp {op : CmpOp} {r : R2} {g : A → A → Store → Res A} (ho : OpR X (compareOp op) r) (hg : OpA c r g) (ha : PE X a (tM c W fa)) (hb : PE X b (tM c W fb)) (hm : behindInMarks op b = false := by rfl) :
    PT X (.Compare a [op] [b] pos) (tT c W (mTst (mBin g fa fb))) := pt_imp (pt_cmpR ho ha hb hm) fun _ _ _ h => entail_op hg _ _ _ (entail_tst h)
/-- an expression as a test, by its value's truth -/
theorem t_val (h : PE X e (tM c W f)) (he : ∀ whole, isTrue e X.env whole = (do let v ← whole; standAt e.pos; holding [v] (truthy v)) := by intro _; rfl) : PT X e (tT c W (mTst f)) :=
  pt_imp (pt_val h he) fun _ _ _ h => entail_tst h
/-! argument lists -/
theorem a_nil : PA X [] (tMA c W mNil) := pa_imp pa_nil fun _ _ _ ⟨_, _, _, rl, p⟩ => p.here rl .nil
theorem a_cons (ha : PE X e (tM c W fa)) (hr : PA X es (tMA c W fr)) (hs : starEach (e :: es) X.env = (false, eval e X.env) :: starEach es X.env := by rfl) : PA X (e :: es) (tMA c W (mCons fa fr)) :=
  pa_imp (pa_cons ha hr hs) fun σ H Q ⟨w, σa, st, rl, p⟩ => ⟨w, σa, st, rl, p.bind fun v x st1 w1 H1 _ rl1 rx p1 => ⟨w1, σa, st1, rl1, p1.bind fun vs xs st2 w2 H2 e2 rl2 rxs p2 => p2.here rl2 (.cons (rx.ext e2) rxs)⟩⟩
end

/-! ### lists -/
def SZ : Nat := 16000000
theorem SZ_le {n : Nat} (h : n ≤ SZ) : n ≤ sizeLine := Nat.le_trans h (by decide)
theorem SZ_lt {n : Nat} (h : n ≤ SZ) : n < sizeLine := Nat.lt_of_le_of_lt h (by decide)
def allD : List A → Option (List D)
  | [] => some []
  | .d x :: r => (allD r).map (x :: ·)
  | .c _ :: _ => none
theorem allD_map : ∀ (xs : List D), allD (xs.map A.d) = some xs
  | [] => rfl
  | x :: xs => by rw [List.map_cons, allD, allD_map xs]; rfl
theorem allD_eq : ∀ {xs : List A} {ds : List D}, allD xs = some ds → xs = ds.map A.d
  | [], _, h => by cases h; rfl
  | .d x :: r, ds, h => by
    rw [allD] at h
    obtain ⟨r', h1, rfl⟩ := Option.map_eq_some_iff.mp h
    rw [allD_eq h1]; rfl
  | .c _ :: _, _, h => by cases h
/-- the items of a list; of a list or a tuple -/
def viewL (st : Store) : A → Option (List A)
  | .d (.list ds) => some (ds.map .d)
  | .c i => match st[i]? with
    | some (.lst xs) => some xs
    | some (.fz (.list ds)) => some (ds.map .d)
    | _ => none
  | _ => none
def viewS (st : Store) : A → Option (List A)
  | .d (.scr ds) => some (ds.map .d)
  | x => viewL st x
def viewT : A → Option (List D)
  | .d (.tup ds) => some ds
  | .d (.kt ds) => some ds
  | _ => none
/-- a new list: a cell if k, data if not -/
noncomputable def mkL (k : Bool) (xs : List A) (st : Store) : Res A :=
  ifc (xs.length ≤ SZ) (if k then .ok (.c st.length) (st ++ [.lst xs]) else match allD xs with
      | some ds => .ok (.d (.list ds)) st
      | none => .no) .no
noncomputable def mkT (xs : List A) (st : Store) : Res A :=
  ifc (xs.length ≤ SZ) (match allD xs with
    | some ds => .ok (.d (.tup ds)) st
    | none => .no) .no
section
variable {c : Ctx} {w : Wd} {n : Nat} {σa : Slots} {st : Store} {σ : L2.St} {H : Hp} {W : WX}
theorem DR.rd {a : Addr} {vs : List V} (sm : Same w.G H) (h : w.G a = some (.lst vs)) : H a = some (.lst vs) := sm _ _ h
theorem ras_d {vs : List V} {ds : List D} (h : DRs c w.G ds vs) : Paired (RA c w n) vs (ds.map A.d) := paired_map A.d h.pair
theorem ras_of_d {vs : List V} {ds : List D} (h : Paired (RA c w n) vs (ds.map A.d)) : DRs c w.G ds vs := DRs.of (paired_unmap A.d h)
theorem viewL_ok (rl : RelS c w st H) : ∀ {x : A} {v : V} {xs : List A}, RA c w st.length v x → viewL st x = some xs → ∃ a vs, v = .ref a ∧ H a = some (.lst vs) ∧ Paired (RA c w st.length) vs xs
  | .d x, v, xs, r, h => by
    cases x with
    | list ds =>
      cases h
      obtain ⟨a, vs, rfl, e, p⟩ := r
      exact ⟨a, vs, rfl, rl.same _ _ e, ras_d p⟩
    | _ => cases h
  | .c i, v, xs, ⟨h1, h2⟩, h => by
    have h : (match st[i]? with | some (.lst xs) => some xs | some (.fz (.list ds)) => some (ds.map .d) | _ => none) = some xs := h
    split at h
    · rename_i q
      cases h
      obtain ⟨_, vs, e, p⟩ := rl.cell _ _ q
      exact ⟨_, vs, h2, e, p⟩
    · rename_i q
      cases h
      obtain ⟨⟨a, vs, e0, e, p⟩, _⟩ := rl.cell _ _ q
      cases e0
      exact ⟨_, vs, h2, rl.same _ _ e, ras_d p⟩
    · cases h
theorem viewS_ok (rl : RelS c w st H) {x : A} {v : V} {xs : List A} (r : RA c w st.length v x) (h : viewS st x = some xs) : ∃ a vs, v = .ref a ∧ SqL c.K H a vs ∧ Paired (RA c w st.length) vs xs := by
  unfold viewS at h
  split at h
  · cases h
    obtain ⟨a, vs, rfl, e, p⟩ := r
    exact ⟨a, vs, rfl, rl.same.seq e, ras_d p⟩
  · obtain ⟨a, vs, e, h, p⟩ := viewL_ok rl r h
    exact ⟨a, vs, e, .of h, p⟩
theorem viewT_ok (rl : RelS c w st H) {x : A} {v : V} {xs : List D} (r : RA c w st.length v x) (h : viewT x = some xs) : ∃ a vs, v = .ref a ∧ SqT c.K H a vs ∧ DRs c w.G xs vs := by
  unfold viewT at h
  split at h
  · cases h
    obtain ⟨a, vs, rfl, e, p⟩ := r
    exact ⟨a, vs, rfl, .of (rl.same _ _ e), p⟩
  · cases h
    obtain ⟨a, vs, rfl, e, p⟩ := r
    exact ⟨a, vs, rfl, same_t rl.same e, p⟩
  · cases h
theorem mkL_ok {k : Bool} {xs : List A} {vs : List V} {Q : VK} (rl : Rel c w σa st σ H) (r : Paired (RA c w st.length) vs xs) (p : Post c w st.length σa σ (RA c) W Q (mkL k xs st)) : vs.length ≤ sizeLine ∧ ∀ q, H q = none → Q (.ref q) (upd H q (.lst vs)) := by
  unfold mkL ifc at p
  split at p
  · rename_i hl
    refine ⟨by rw [r.length]; exact SZ_le hl, fun q hq => ?_⟩
    cases k with
    | true =>
      refine p _ _ _ (by rw [List.length_append]; exact w.cell_ext st.length q) (rl.push (o := .lst vs) hq ⟨rl.rs.same.free hq, vs, upd_same, ras_ext (w.cell_ext st.length q) r⟩) ⟨?_, ?_⟩
      · rw [List.length_append]; exact Nat.lt_succ_self _
      · rw [w.cell_at]
    | false =>
      simp only [Bool.false_eq_true, if_false] at p
      split at p
      · rename_i ds hd
        rw [allD_eq hd] at r
        have g := rl.rs.same.free hq
        exact p _ _ _ (w.put_ext g) (rl.put hq) ⟨q, vs, rfl, upd_same, (ras_of_d r).same (same_upd g)⟩
      · exact p.elim
  · exact p.elim
theorem mkT_ok {xs : List A} {vs : List V} {Q : VK} (rl : Rel c w σa st σ H) (r : Paired (RA c w st.length) vs xs) (p : Post c w st.length σa σ (RA c) W Q (mkT xs st)) : vs.length ≤ sizeLine ∧ ∀ q, H q = none → Q (.ref q) (upd H q (.tup vs)) := by
  unfold mkT ifc at p
  split at p
  · rename_i hl
    refine ⟨by rw [r.length]; exact SZ_le hl, fun q hq => ?_⟩
    split at p
    · rename_i ds hd
      rw [allD_eq hd] at r
      have g := rl.rs.same.free hq
      exact p _ _ _ (w.put_ext g) (rl.put hq) ⟨q, vs, rfl, upd_same, (ras_of_d r).same (same_upd g)⟩
    · exact p.elim
  · exact p.elim
end
noncomputable def mList (k : Bool) (fr : MA) : ME := fun σ st => (fr σ st).bind fun xs st1 => mkL k xs st1
noncomputable def mTup (fr : MA) : ME := fun σ st => (fr σ st).bind fun xs st1 => mkT xs st1
section
variable {X : Cx} {c : Ctx} {W : WX} {a b e : Expr} {es rest : List Expr} {fa fb f : ME} {fr : MA} {pos : Pos}
theorem e_list (k : Bool) (h : PA X es (tMA c W fr)) : PE X (.List es pos) (tM c W (mList k fr)) := pe_imp (pe_lst h) fun σ H Q ⟨w, σa, st, rl, p⟩ =>
  ⟨w, σa, st, rl, p.bind fun vs xs st1 w1 H1 _ rl1 r p1 => mkL_ok rl1 r p1⟩
theorem e_tup {x1} (h : PA X es (tMA c W fr)) : PE X (.Tuple es x1 pos) (tM c W (mTup fr)) := pe_imp (pe_tup h) fun σ H Q ⟨w, σa, st, rl, p⟩ =>
  ⟨w, σa, st, rl, p.bind fun vs xs st1 w1 H1 _ rl1 r p1 => mkT_ok rl1 r p1⟩
end
end Am
/-! ### Am: operations by values -/
namespace Am
open PySem PySem.Spec PyProof.Rows L2
open Classical in
/-- the machine goes on only where p holds -/
noncomputable def need {α : Type} (p : Prop) (r : Res α) : Res α := if p then r else .no
theorem need_pos {α : Type} {p : Prop} {r : Res α} (h : p) : need p r = r := by unfold need; exact if_pos h
section
variable {α β : Type} {c : Ctx} {w : Wd} {n : Nat} {σa : Slots} {σ : L2.St} {W : WX} {R : Wd → Nat → β → α → Prop} {Q : β → Hp → Prop} {p : Prop} {r : Res α}
theorem Post.need (h : Post c w n σa σ R W Q (need p r)) : p ∧ Post c w n σa σ R W Q r := by
  unfold Am.need at h
  by_cases q : p
  · rw [if_pos q] at h; exact ⟨q, h⟩
  · rw [if_neg q] at h; exact h.elim
end
/-! two ints -/
noncomputable def gI (C : Int → Int → Prop) (g : Int → Int → D) : A → A → Store → Res A
  | .d (.int i), .d (.int j), st => need (C i j) (.ok (.d (g i j)) st)
  | _, _, _ => .no
def gI0 (g : Int → Int → D) : A → A → Store → Res A
  | .d (.int i), .d (.int j), st => .ok (.d (g i j)) st
  | _, _, _ => .no
section
variable {c : Ctx}
theorem gI0_ok {f : Int → Int → V} {g : Int → Int → D} (h : ∀ G i j, DR c G (g i j) (f i j)) : OpA c (rI0 f) (gI0 g) := by
  intro w σa st σ H x y v u W Q rl rx ry p
  unfold gI0 at p
  split at p
  · exact ⟨_, _, rx, ry, p.here rl (h _ _ _)⟩
  · exact p.elim
theorem gI_ok {C : Int → Int → Prop} {f : Int → Int → V} {g : Int → Int → D} (h : ∀ G i j, DR c G (g i j) (f i j)) : OpA c (rI C f) (gI C g) := by
  intro w σa st σ H x y v u W Q rl rx ry p
  unfold gI at p
  split at p
  · obtain ⟨hc, p⟩ := p.need
    exact ⟨_, _, rx, ry, hc, p.here rl (h _ _ _)⟩
  · exact p.elim
end
abbrev gSub := gI0 fun i j => .int (i - j)
abbrev gXor := gI0 fun i j => .int (Builtin.bitXor i j)
abbrev gAnd := gI0 fun i j => .int (Builtin.bitAnd i j)
def CDivA (i j : Int) : Prop := CDiv i j ∨ CDivW i j
def CMulA (i j : Int) : Prop := CMul i j ∨ CMulW i j
noncomputable abbrev gFdiv := gI CDivA fun i j => .int (i / j)
noncomputable abbrev gMod := gI (fun _ j => 0 < j) fun i j => .int (i % j)
noncomputable abbrev gPow := gI CPow fun i j => .int (i ^ j.toNat)
abbrev gLt := gI0 fun i j => .bl (decide (i < j))
abbrev gLe := gI0 fun i j => .bl (decide (i ≤ j))
abbrev gGt := gI0 fun i j => .bl (decide (j < i))
abbrev gGe := gI0 fun i j => .bl (decide (j ≤ i))
section
variable {X : Cx} {c : Ctx} {W : WX} {a b e : Expr} {fa fb : ME} {pos : Pos}
theorem rI_or {f : Value → Value → Sem Value} {C C' : Int → Int → Prop} {g : Int → Int → V} (h : OpR X f (rI C g)) (h' : OpR X f (rI C' g)) : OpR X f (rI (fun i j => C i j ∨ C' i j) g) := by
  intro pins s σ H x y v u Q I rx ry ⟨i, j, e1, e2, hc, q⟩
  rcases hc with hc | hc
  · exact h pins s σ H x y v u Q I rx ry ⟨i, j, e1, e2, hc, q⟩
  · exact h' pins s σ H x y v u Q I rx ry ⟨i, j, e1, e2, hc, q⟩
theorem e_sub (ha : PE X a (tM c W fa)) (hb : PE X b (tM c W fb)) : PE X (.BinOp a .Sub b pos) (tM c W (mBin gSub fa fb)) := e_bin op_sub (gI0_ok fun _ _ _ => rfl) ha hb
theorem e_xor (ha : PE X a (tM c W fa)) (hb : PE X b (tM c W fb)) : PE X (.BinOp a .BitXor b pos) (tM c W (mBin gXor fa fb)) := e_bin op_xor (gI0_ok fun _ _ _ => rfl) ha hb
theorem e_band (ha : PE X a (tM c W fa)) (hb : PE X b (tM c W fb)) : PE X (.BinOp a .BitAnd b pos) (tM c W (mBin gAnd fa fb)) := e_bin op_and (gI0_ok fun _ _ _ => rfl) ha hb
theorem e_fdiv (ha : PE X a (tM c W fa)) (hb : PE X b (tM c W fb)) : PE X (.BinOp a .FloorDiv b pos) (tM c W (mBin gFdiv fa fb)) := e_bin (rI_or op_fdiv op_fdivW) (gI_ok fun _ _ _ => rfl) ha hb
theorem e_mod (ha : PE X a (tM c W fa)) (hb : PE X b (tM c W fb)) : PE X (.BinOp a .Mod b pos) (tM c W (mBin gMod fa fb)) := e_bin op_mod (gI_ok fun _ _ _ => rfl) ha hb
theorem e_pow (ha : PE X a (tM c W fa)) (hb : PE X b (tM c W fb)) : PE X (.BinOp a .Pow b pos) (tM c W (mBin gPow fa fb)) := e_bin op_pow (gI_ok fun _ _ _ => rfl) ha hb
theorem e_lt (ha : PE X a (tM c W fa)) (hb : PE X b (tM c W fb)) : PE X (.Compare a [.Lt] [b] pos) (tM c W (mBin gLt fa fb)) := e_cmp op_lt (gI0_ok fun _ _ _ => rfl) ha hb (nomark _)
theorem e_le (ha : PE X a (tM c W fa)) (hb : PE X b (tM c W fb)) : PE X (.Compare a [.LtE] [b] pos) (tM c W (mBin gLe fa fb)) := e_cmp op_le (gI0_ok fun _ _ _ => rfl) ha hb (nomark _)
theorem e_gt (ha : PE X a (tM c W fa)) (hb : PE X b (tM c W fb)) : PE X (.Compare a [.Gt] [b] pos) (tM c W (mBin gGt fa fb)) := e_cmp op_gt (gI0_ok fun _ _ _ => rfl) ha hb (nomark _)
theorem e_ge (ha : PE X a (tM c W fa)) (hb : PE X b (tM c W fb)) : PE X (.Compare a [.GtE] [b] pos) (tM c W (mBin gGe fa fb)) := e_cmp op_ge (gI0_ok fun _ _ _ => rfl) ha hb (nomark _)
theorem t_lt (ha : PE X a (tM c W fa)) (hb : PE X b (tM c W fb)) : PT X (.Compare a [.Lt] [b] pos) (tT c W (mTst (mBin gLt fa fb))) := t_cmp op_lt (gI0_ok fun _ _ _ => rfl) ha hb (nomark _)
theorem t_le (ha : PE X a (tM c W fa)) (hb : PE X b (tM c W fb)) : PT X (.Compare a [.LtE] [b] pos) (tT c W (mTst (mBin gLe fa fb))) := t_cmp op_le (gI0_ok fun _ _ _ => rfl) ha hb (nomark _)
theorem t_gt (ha : PE X a (tM c W fa)) (hb : PE X b (tM c W fb)) : PT X (.Compare a [.Gt] [b] pos) (tT c W (mTst (mBin gGt fa fb))) := t_cmp op_gt (gI0_ok fun _ _ _ => rfl) ha hb (nomark _)
theorem t_ge (ha : PE X a (tM c W fa)) (hb : PE X b (tM c W fb)) : PT X (.Compare a [.GtE] [b] pos) (tT c W (mTst (mBin gGe fa fb))) := t_cmp op_ge (gI0_ok fun _ _ _ => rfl) ha hb (nomark _)
end
/-! a < b < c -/
def mChain (g g' : A → A → Store → Res A) (fa fb fc : ME) : ME := fun σ st => (fa σ st).bind fun x st1 => (fb σ st1).bind fun y st2 => (g x y st2).bind fun z st3 => match z with
  | .d (.bl true) => (fc σ st3).bind fun u st4 => g' y u st4
  | .d (.bl false) => .ok (.d (.bl false)) st3
  | _ => .no
section
variable {X : Cx} {c : Ctx} {W : WX} {a b d e : Expr} {fa fb fc : ME} {pos : Pos}
theorem opA_bind {r : R2} {g : A → A → Store → Res A} (hg : OpA c r g) {w : Wd} {n : Nat} {σa : Slots} {st : Store} {σ : L2.St} {H : Hp} {x y : A} {v u : V} {Q Q' : VK} {k : A → Store → Res A} (rl : Rel c w σa st σ H) (rx : RA c w st.length v x) (ry : RA c w st.length u y)
    (p : Post c w st.length σa σ (RA c) W Q ((g x y st).bind k)) (f : ∀ z a st1 w1 H1, Ext w st.length w1 st1.length → Rel c w1 σa st1 σ H1 → RA c w1 st1.length z a → Post c w1 st1.length σa σ (RA c) W Q (k a st1) → Q' z H1) : r v u H Q' :=
  hg w σa st σ H x y v u W Q' rl rx ry (p.bind f)
theorem entail_chain {r r' : R2} {g g' : A → A → Store → Res A} (hg : OpA c r g) (hg' : OpA c r' g') (σ : L2.St) (H : Hp) (Q : VK) : tM c W (mChain g g' fa fb fc) σ H Q → tChain r r' (tM c W fa) (tM c W fb) (tM c W fc) σ H Q := fun ⟨w, σa, st, rl, p⟩ =>
  ⟨w, σa, st, rl, p.bind fun v x st1 w1 H1 _ rl1 rx p1 => ⟨w1, σa, st1, rl1, p1.bind fun u y st2 w2 H2 e2 rl2 ry p2 => opA_bind (n := 0) hg rl2 (rx.ext e2) ry p2 fun z a st3 w3 H3 e3 rl3 ra p3 => by
    split at p3
    · refine ⟨true, ra, iteT ⟨w3, σa, st3, rl3, p3.bind fun t b st4 w4 H4 e4 rl4 rb p4 => hg' w4 σa st4 σ H4 y b u t W Q rl4 ((ry.ext e3).ext e4) rb p4⟩⟩
    · exact ⟨false, ra, iteF (p3.here rl3 rfl)⟩
    · exact p3.elim⟩⟩
theorem e_chain {op op' : CmpOp} {r r' : R2} {g g' : A → A → Store → Res A} (ho : OpR X (compareOp op) r) (hg : OpA c r g) (ho' : OpR X (compareOp op') r') (hg' : OpA c r' g') (ha : PE X a (tM c W fa)) (hb : PE X b (tM c W fb)) (hd : PE X d (tM c W fc))
    (hm : lastMarks [op, op'] [b, d] = false := by with_unfolding_all rfl) : PE X (.Compare a [op, op'] [b, d] pos) (tM c W (mChain g g' fa fb fc)) := pe_imp (pe_chain ho ho' ha hb hd hm) (entail_chain hg hg')
theorem t_chain {op op' : CmpOp} {r r' : R2} {g g' : A → A → Store → Res A} (ho : OpR X (compareOp op) r) (hg : OpA c r g) (ho' : OpR X (compareOp op') r') (hg' : OpA c r' g') (ha : PE X a (tM c W fa)) (hb : PE X b (tM c W fb)) (hd : PE X d (tM c W fc))
    (hm : lastMarks [op, op'] [b, d] = false := by with_unfolding_all rfl) : PT X (.Compare a [op, op'] [b, d] pos) (tT c W (mTst (mChain g g' fa fb fc))) := pt_imp (pt_chain ho ho' ha hb hd hm) fun _ _ _ h => entail_chain hg hg' _ _ _ (entail_tst h)
theorem e_leLe (ha : PE X a (tM c W fa)) (hb : PE X b (tM c W fb)) (hd : PE X d (tM c W fc)) (hm : lastMarks [.LtE, .LtE] [b, d] = false := by with_unfolding_all rfl) : PE X (.Compare a [.LtE, .LtE] [b, d] pos) (tM c W (mChain gLe gLe fa fb fc)) := e_chain op_le (gI0_ok fun _ _ _ => rfl) op_le (gI0_ok fun _ _ _ => rfl) ha hb hd hm
theorem t_leLe (ha : PE X a (tM c W fa)) (hb : PE X b (tM c W fb)) (hd : PE X d (tM c W fc)) (hm : lastMarks [.LtE, .LtE] [b, d] = false := by with_unfolding_all rfl) : PT X (.Compare a [.LtE, .LtE] [b, d] pos) (tT c W (mTst (mChain gLe gLe fa fb fc))) := t_chain op_le (gI0_ok fun _ _ _ => rfl) op_le (gI0_ok fun _ _ _ => rfl) ha hb hd hm
theorem e_leLt (ha : PE X a (tM c W fa)) (hb : PE X b (tM c W fb)) (hd : PE X d (tM c W fc)) (hm : lastMarks [.LtE, .Lt] [b, d] = false := by with_unfolding_all rfl) : PE X (.Compare a [.LtE, .Lt] [b, d] pos) (tM c W (mChain gLe gLt fa fb fc)) := e_chain op_le (gI0_ok fun _ _ _ => rfl) op_lt (gI0_ok fun _ _ _ => rfl) ha hb hd hm
theorem t_leLt (ha : PE X a (tM c W fa)) (hb : PE X b (tM c W fb)) (hd : PE X d (tM c W fc)) (hm : lastMarks [.LtE, .Lt] [b, d] = false := by with_unfolding_all rfl) : PT X (.Compare a [.LtE, .Lt] [b, d] pos) (tT c W (mTst (mChain gLe gLt fa fb fc))) := t_chain op_le (gI0_ok fun _ _ _ => rfl) op_lt (gI0_ok fun _ _ _ => rfl) ha hb hd hm
end
/-! a + b -/
noncomputable def gAdd (k : Bool) : A → A → Store → Res A
  | .d (.int i), .d (.int j), st => .ok (.d (.int (i + j))) st
  | .d (.str a), .d (.str b), st => need (a.length + b.length ≤ SZ) (.ok (.d (.str (a ++ b))) st)
  | .d (.tup a), .d (.tup b), st => mkT ((a ++ b).map .d) st
  | x, y, st => match viewL st x, viewL st y with
    | some a, some b => mkL k (a ++ b) st
    | _, _ => .no
def rAddS : R2 := fun x y H Q => ∃ i j, x = .str i ∧ y = .str j ∧ i.length + j.length ≤ sizeLine ∧ Q (.str (i ++ j)) H
def rAddA (K : PySem.W.Frag) : R2 := fun x y H Q => rI0 (fun i j => .int (i + j)) x y H Q ∨ (rAddS x y H Q ∨ (rCatA K x y H Q ∨ rCat x y H Q))
section
variable {X : Cx} {c : Ctx} {W : WX} {a b e : Expr} {fa fb : ME} {pos : Pos}
theorem op_addA (F : Fits X c) : OpR X (binaryOp .Add) (rAddA c.K) := by
  rw [← F.K]
  exact op_add.or (OpR.or (show OpR X (binaryOp .Add) rAddS from op_add_str) (op_catA.or op_cat))
theorem mkT_data {w : Wd} {n : Nat} {σa : Slots} {st : Store} {σ : L2.St} {Q : VK} {ds : List D} (p : Post c w n σa σ (RA c) W Q (mkT (ds.map .d) st)) : ds.length ≤ SZ ∧ Post c w n σa σ (RA c) W Q (.ok (.d (.tup ds)) st) := by
  unfold mkT ifc at p
  split at p
  · rename_i h
    rw [List.length_map] at h
    rw [allD_map] at p
    exact ⟨h, p⟩
  · exact p.elim
theorem gAdd_ok (k : Bool) : OpA c (rAddA c.K) (gAdd k) := by
  intro w σa st σ H x y v u W Q rl rx ry p
  unfold gAdd at p
  split at p
  · exact .inl ⟨_, _, rx, ry, p.here rl rfl⟩
  · obtain ⟨hl, p⟩ := p.need
    exact .inr (.inl ⟨_, _, rx, ry, SZ_le hl, p.here rl rfl⟩)
  · rename_i a b
    obtain ⟨_, va, ea, qa, da⟩ := viewT_ok rl.rs rx rfl
    obtain ⟨_, vb, eb, qb, db⟩ := viewT_ok rl.rs ry rfl
    have pr : Paired (RA c w st.length) (va ++ vb) ((a ++ b).map A.d) := by rw [List.map_append]; exact paired_append (ras_d da) (ras_d db)
    obtain ⟨hl, hq⟩ := mkT_ok rl pr p
    obtain ⟨_, p2⟩ := mkT_data p
    refine .inr (.inr (.inl ⟨_, _, va, vb, ea, eb, qa, qb, by rw [← List.length_append]; exact hl, fun z => ?_, fun _ z => ?_, fun _ _ => hq⟩))
    · subst z
      have : a = [] := by cases a with | nil => rfl | cons _ _ => obtain ⟨_, _, e, _⟩ := da; cases e
      subst this
      rw [eb] at ry
      exact p2.here rl ry
    · subst z
      have : b = [] := by cases b with | nil => rfl | cons _ _ => obtain ⟨_, _, e, _⟩ := db; cases e
      subst this
      rw [ea] at rx
      exact p2.here rl (by rw [List.append_nil]; exact rx)
  · split at p
    · rename_i ha hb
      obtain ⟨_, va, ea, qa, da⟩ := viewL_ok rl.rs rx ha
      obtain ⟨_, vb, eb, qb, db⟩ := viewL_ok rl.rs ry hb
      obtain ⟨hl, hq⟩ := mkL_ok rl (paired_append da db) p
      exact .inr (.inr (.inr ⟨_, _, va, vb, ea, eb, qa, qb, by rw [← List.length_append]; exact hl, hq⟩))
    · exact p.elim
theorem e_add (k : Bool) (ha : PE X a (tM c W fa)) (hb : PE X b (tM c W fb)) (F : Fits X c := by exact ⟨rfl, rfl⟩) : PE X (.BinOp a .Add b pos) (tM c W (mBin (gAdd k) fa fb)) := e_bin (op_addA F) (gAdd_ok k) ha hb
end
/-! a * b -/
noncomputable def gMul (k : Bool) : A → A → Store → Res A
  | .d (.int i), .d (.int j), st => need (CMulA i j) (.ok (.d (.int (i * j))) st)
  | x, .d (.int j), st => match viewL st x with
    | some a => need (j < 2 ^ 63 ∧ -(2 ^ 63) ≤ j ∧ a.length * j.toNat ≤ SZ) (mkL k (List.replicate j.toNat a).flatten st)
    | _ => .no
  | _, _, _ => .no
def rMulA : R2 := fun x y H Q => rI CMulA (fun i j => .int (i * j)) x y H Q ∨ rRep x y H Q
theorem paired_rep {α β : Type} {F : α → β → Prop} {l₁ : List α} {l₂ : List β} (h : Paired F l₁ l₂) : ∀ n : Nat, Paired F (List.replicate n l₁).flatten (List.replicate n l₂).flatten
  | 0 => .nil
  | n + 1 => by
    rw [List.replicate_succ, List.replicate_succ, List.flatten_cons, List.flatten_cons]
    exact paired_append h (paired_rep h n)
section
variable {X : Cx} {c : Ctx} {W : WX} {a b e : Expr} {fa fb f : ME} {pos : Pos}
theorem gMul_ok (k : Bool) : OpA c rMulA (gMul k) := by
  intro w σa st σ H x y v u W Q rl rx ry p
  unfold gMul at p
  split at p
  · obtain ⟨hc, p⟩ := p.need
    exact .inl ⟨_, _, rx, ry, hc, p.here rl rfl⟩
  · split at p
    · rename_i ha
      obtain ⟨⟨h1, h2, h3⟩, p⟩ := p.need
      obtain ⟨_, va, ea, qa, da⟩ := viewL_ok rl.rs rx ha
      exact .inr ⟨_, _, va, ea, ry, qa, h2, h1, by rw [da.length]; exact SZ_le h3, (mkL_ok rl (paired_rep da _) p).2⟩
    · exact p.elim
  · exact p.elim
theorem e_mul (k : Bool) (ha : PE X a (tM c W fa)) (hb : PE X b (tM c W fb)) : PE X (.BinOp a .Mult b pos) (tM c W (mBin (gMul k) fa fb)) := e_bin (OpR.or (rI_or op_mul op_mulW) op_rep) (gMul_ok k) ha hb
/-! -a, not a -/
def gNeg : A → Store → Res A
  | .d (.int i), st => .ok (.d (.int (-i))) st
  | _, _ => .no
theorem e_neg (ha : PE X a (tM c W fa)) : PE X (.UnaryOp .USub a pos) (tM c W (mUn gNeg fa)) := e_un un_neg (fun w σa st σ H x v W Q rl rx p => by
  unfold gNeg at p
  split at p
  · exact ⟨_, rx, p.here rl rfl⟩
  · exact p.elim) ha
end
/-! truth -/
def truthD : D → Option Bool
  | .non => some false
  | .bl b => some b
  | .int i => some (i != 0)
  | .list xs => some (!xs.isEmpty)
  | .scr xs => some (!xs.isEmpty)
  | .tup xs => some (!xs.isEmpty)
  | .kt xs => some (!xs.isEmpty)
  | _ => none
def truthA (st : Store) : A → Option Bool
  | .d x => truthD x
  | .c i => match st[i]? with
    | some (.lst xs) => some (!xs.isEmpty)
    | some (.dK xs) => some (!xs.isEmpty)
    | some (.fz x) => truthD x
    | _ => none
def mTru (f : ME) : MT := fun σ st => (f σ st).bind fun a st1 => match truthA st1 a with
  | some b => .ok b st1
  | none => .no
def mNot (f : MT) : MT := fun σ st => (f σ st).bind fun b st1 => .ok (!b) st1
def mAnd (f g : MT) : MT := fun σ st => (f σ st).bind fun b st1 => if b then g σ st1 else .ok false st1
def mOr (f g : MT) : MT := fun σ st => (f σ st).bind fun b st1 => if b then .ok true st1 else g σ st1
def mIfE (t : MT) (f g : ME) : ME := fun σ st => (t σ st).bind fun b st1 => if b then f σ st1 else g σ st1
/-- as values -/
def mNotV (f : ME) : ME := fun σ st => (f σ st).bind fun a st1 => match truthA st1 a with
  | some b => .ok (.d (.bl (!b))) st1
  | none => .no
def mAndV (f g : ME) : ME := fun σ st => (f σ st).bind fun a st1 => match truthA st1 a with
  | some true => g σ st1
  | some false => .ok a st1
  | none => .no
def mOrV (f g : ME) : ME := fun σ st => (f σ st).bind fun a st1 => match truthA st1 a with
  | some true => .ok a st1
  | some false => g σ st1
  | none => .no
theorem paired_empty {α β : Type} {F : α → β → Prop} {l₁ : List α} {l₂ : List β} (h : Paired F l₁ l₂) : l₂.isEmpty = l₁.isEmpty := by cases h <;> rfl
section
variable {X : Cx} {c : Ctx} {W : WX} {a b e : Expr} {rest : List Expr} {fa fb f : ME} {ta tb : MT} {pos : Pos}
theorem truthD_ok {w : Wd} {H : Hp} (sm : Same w.G H) : ∀ {x : D} {v : V} {k : Bool}, DR c w.G x v → truthD x = some k → TruV c.K v H k := by
  intro x v k r h
  cases x with
  | non => cases h; cases r; exact rfl
  | bl b => cases h; cases r; exact rfl
  | int i => cases h; cases r; exact rfl
  | list xs => cases h; obtain ⟨a, vs, rfl, e, p⟩ := r; exact .inl ⟨vs, .of (sm _ _ e), by rw [paired_empty p.pair]⟩
  | scr xs => cases h; obtain ⟨a, vs, rfl, e, p⟩ := r; exact .inl ⟨vs, sm.seq e, by rw [paired_empty p.pair]⟩
  | tup xs => cases h; obtain ⟨a, vs, rfl, e, p⟩ := r; exact .inr (.inl ⟨vs, .of (sm _ _ e), by rw [paired_empty p.pair]⟩)
  | kt xs => cases h; obtain ⟨a, vs, rfl, e, p⟩ := r; exact .inr (.inl ⟨vs, same_t sm e, by rw [paired_empty p.pair]⟩)
  | _ => cases h
theorem truthA_ok {w : Wd} {st : Store} {H : Hp} (rl : RelS c w st H) : ∀ {x : A} {v : V} {k : Bool}, RA c w st.length v x → truthA st x = some k → TruV c.K v H k
  | .d x, v, k, r, h => truthD_ok rl.same r h
  | .c i, v, k, ⟨_, e⟩, h => by
    have h : (match st[i]? with | some (.lst xs) => some (!xs.isEmpty) | some (.dK xs) => some (!xs.isEmpty) | some (.fz x) => truthD x | _ => none) = some k := h
    split at h
    · rename_i q
      cases h
      obtain ⟨_, vs, e2, p⟩ := rl.cell _ _ q
      rw [e]
      exact .inl ⟨vs, .of e2, by rw [paired_empty p]⟩
    · rename_i q
      cases h
      obtain ⟨_, vs, e2, p⟩ := rl.cell _ _ q
      rw [e]
      exact .inr (.inr ⟨vs, e2, by rw [paired_empty p]⟩)
    · rename_i q
      rw [e]
      exact truthD_ok rl.same (rl.cell _ _ q).1 h
    · cases h
theorem t_tru (ha : PE X a (tM c W f)) (he : ∀ whole, isTrue a X.env whole = (do let v ← whole; standAt a.pos; holding [v] (truthy v)) := by intro _; rfl) (F : Fits X c := by exact ⟨rfl, rfl⟩) : PT X a (tT c W (mTru f)) :=
  pt_imp (pt_truth ha he) fun σ H Q ⟨w, σa, st, rl, p⟩ => ⟨w, σa, st, rl, p.bind fun v x st1 w1 H1 _ rl1 rx p1 => by
    split at p1
    · rename_i k hk
      rw [F.K]
      exact ⟨k, truthA_ok rl1.rs rx hk, p1.here rl1 rfl⟩
    · exact p1.elim⟩
theorem t_not (ha : PT X a (tT c W ta)) : PT X (.UnaryOp .Not a pos) (tT c W (mNot ta)) := pt_imp (pt_not ha) fun σ H Q ⟨w, σa, st, rl, p⟩ => ⟨w, σa, st, rl, p.bind fun v x st1 w1 H1 _ rl1 rx p1 => by
  subst rx
  exact p1.here rl1 rfl⟩
theorem w_and1 (ha : PT X a (tT c W ta)) : PW X (.BoolOp .And [a] pos) (tT c W ta) := pw_and1 ha
theorem w_or1 (ha : PT X a (tT c W ta)) : PW X (.BoolOp .Or [a] pos) (tT c W ta) := pw_or1 ha
theorem w_and (ha : PT X a (tT c W ta)) (hb : PW X (.BoolOp .And (b :: rest) pos) (tT c W tb)) : PW X (.BoolOp .And (a :: b :: rest) pos) (tT c W (mAnd ta tb)) := pw_imp (pw_and ha hb) fun σ H Q ⟨w, σa, st, rl, p⟩ =>
  ⟨w, σa, st, rl, p.bind fun v x st1 w1 H1 _ rl1 rx p1 => by
    subst rx
    cases v with
    | true => exact iteT ⟨w1, σa, st1, rl1, p1⟩
    | false => exact iteF (p1.here rl1 rfl)⟩
theorem w_or (ha : PT X a (tT c W ta)) (hb : PW X (.BoolOp .Or (b :: rest) pos) (tT c W tb)) : PW X (.BoolOp .Or (a :: b :: rest) pos) (tT c W (mOr ta tb)) := pw_imp (pw_or ha hb) fun σ H Q ⟨w, σa, st, rl, p⟩ =>
  ⟨w, σa, st, rl, p.bind fun v x st1 w1 H1 _ rl1 rx p1 => by
    subst rx
    cases v with
    | true => exact iteT (p1.here rl1 rfl)
    | false => exact iteF ⟨w1, σa, st1, rl1, p1⟩⟩
theorem t_bool (h : PW X e (tT c W ta)) : PT X e (tT c W ta) := h.pt
theorem e_if (ht : PT X e (tT c W ta)) (ha : PE X a (tM c W fa)) (hb : PE X b (tM c W fb)) : PE X (.IfExp e a b pos) (tM c W (mIfE ta fa fb)) := pe_imp (pe_ifExp ht ha hb) fun σ H Q ⟨w, σa, st, rl, p⟩ =>
  ⟨w, σa, st, rl, p.bind fun v x st1 w1 H1 _ rl1 rx p1 => by
    subst rx
    cases v with
    | true => exact iteT ⟨w1, σa, st1, rl1, p1⟩
    | false => exact iteF ⟨w1, σa, st1, rl1, p1⟩⟩
theorem e_not (ha : PE X a (tM c W f)) (F : Fits X c := by exact ⟨rfl, rfl⟩) : PE X (.UnaryOp .Not a pos) (tM c W (mNotV f)) := pe_imp (pe_notT ha) fun σ H Q ⟨w, σa, st, rl, p⟩ => ⟨w, σa, st, rl, p.bind fun v x st1 w1 H1 _ rl1 rx p1 => by
  split at p1
  · rename_i k hk
    rw [F.K]
    exact ⟨k, truthA_ok rl1.rs rx hk, p1.here rl1 rfl⟩
  · exact p1.elim⟩
theorem e_one {op} (ha : PE X a (tM c W f)) : PE X (.BoolOp op [a] pos) (tM c W f) := pe_one ha
theorem e_and (ha : PE X a (tM c W fa)) (hb : PE X (.BoolOp .And (b :: rest) pos) (tM c W fb)) (F : Fits X c := by exact ⟨rfl, rfl⟩) : PE X (.BoolOp .And (a :: b :: rest) pos) (tM c W (mAndV fa fb)) := pe_imp (pe_andT ha hb) fun σ H Q ⟨w, σa, st, rl, p⟩ =>
  ⟨w, σa, st, rl, p.bind fun v x st1 w1 H1 _ rl1 rx p1 => by
    rw [F.K]
    split at p1
    · rename_i hk
      exact ⟨true, truthA_ok rl1.rs rx hk, iteT ⟨w1, σa, st1, rl1, p1⟩⟩
    · rename_i hk
      exact ⟨false, truthA_ok rl1.rs rx hk, iteF (p1.here rl1 rx)⟩
    · exact p1.elim⟩
theorem e_or (ha : PE X a (tM c W fa)) (hb : PE X (.BoolOp .Or (b :: rest) pos) (tM c W fb)) (F : Fits X c := by exact ⟨rfl, rfl⟩) : PE X (.BoolOp .Or (a :: b :: rest) pos) (tM c W (mOrV fa fb)) := pe_imp (pe_orT ha hb) fun σ H Q ⟨w, σa, st, rl, p⟩ =>
  ⟨w, σa, st, rl, p.bind fun v x st1 w1 H1 _ rl1 rx p1 => by
    rw [F.K]
    split at p1
    · rename_i hk
      exact ⟨true, truthA_ok rl1.rs rx hk, iteT (p1.here rl1 rx)⟩
    · rename_i hk
      exact ⟨false, truthA_ok rl1.rs rx hk, iteF ⟨w1, σa, st1, rl1, p1⟩⟩
    · exact p1.elim⟩
end
/-! is None, is of bools -/
def gIs (neg : Bool) : A → A → Store → Res A
  | .d .non, .d .non, st => .ok (.d (.bl (!neg))) st
  | _, .d .non, st => .ok (.d (.bl neg)) st
  | .d (.bl a), .d (.bl b), st => .ok (.d (.bl (if neg then !decide (a = b) else decide (a = b)))) st
  | _, _, _ => .no
def rIsA (neg : Bool) : R2 := fun x y H Q => (y = .non ∧ Q (.bl (if neg then !decide (x = .non) else decide (x = .non))) H) ∨ (∃ a b : Bool, x = .bl a ∧ y = .bl b ∧ Q (.bl (if neg then !decide (a = b) else decide (a = b))) H)
section
variable {X : Cx} {c : Ctx} {W : WX} {a b e : Expr} {fa fb f : ME} {pos : Pos}
theorem RA.ne_non {w : Wd} {n : Nat} {x : A} {v : V} (r : RA c w n v x) (h : x ≠ .d .non) : v ≠ .non := fun z => by
  subst z
  cases x with
  | c i => cases r.2
  | d x =>
    cases x with
    | non => exact h rfl
    | list _ => obtain ⟨_, _, e, _⟩ := r; cases e
    | scr _ => obtain ⟨_, _, e, _⟩ := r; cases e
    | tup _ => obtain ⟨_, _, e, _⟩ := r; cases e
    | kt _ => obtain ⟨_, _, e, _⟩ := r; cases e
    | dK _ => obtain ⟨_, _, e, _⟩ := r; cases e
    | dT _ => obtain ⟨_, _, e, _⟩ := r; cases e
    | ins _ _ => obtain ⟨_, _, _, _, e, _⟩ := r; cases e
    | fn _ => obtain ⟨_, _, e⟩ := r; cases e
    | _ => cases r
theorem gIs_ok (neg : Bool) : OpA c (rIsA neg) (gIs neg) := by
  intro w σa st σ H x y v u W Q rl rx ry p
  unfold gIs at p
  split at p
  · refine .inl ⟨ry, p.here rl ?_⟩
    cases (show v = .non from rx)
    show _ = _
    cases neg <;> rfl
  · rename_i h
    refine .inl ⟨ry, p.here rl ?_⟩
    have hv := RA.ne_non rx fun z => h z
    rw [decide_eq_false hv]
    show _ = _
    cases neg <;> rfl
  · exact .inr ⟨_, _, rx, ry, p.here rl rfl⟩
  · exact p.elim
theorem op_isA : OpR X (compareOp .Is) (rIsA false) := OpR.or (show OpR X (compareOp .Is) (fun x y H Q => y = .non ∧ Q (.bl (decide (x = .non))) H) from op_isN) (show OpR X (compareOp .Is) rIsB from op_isBl)
theorem op_notA : OpR X (compareOp .IsNot) (rIsA true) := OpR.or (show OpR X (compareOp .IsNot) (fun x y H Q => y = .non ∧ Q (.bl (!decide (x = .non))) H) from op_notN) (show OpR X (compareOp .IsNot) rNotB from op_notBl)
theorem e_is (ha : PE X a (tM c W fa)) (hb : PE X b (tM c W fb)) : PE X (.Compare a [.Is] [b] pos) (tM c W (mBin (gIs false) fa fb)) := e_cmp op_isA (gIs_ok _) ha hb (nomark _)
theorem t_is (ha : PE X a (tM c W fa)) (hb : PE X b (tM c W fb)) : PT X (.Compare a [.Is] [b] pos) (tT c W (mTst (mBin (gIs false) fa fb))) := t_cmp op_isA (gIs_ok _) ha hb (nomark _)
theorem e_isnot (ha : PE X a (tM c W fa)) (hb : PE X b (tM c W fb)) : PE X (.Compare a [.IsNot] [b] pos) (tM c W (mBin (gIs true) fa fb)) := e_cmp op_notA (gIs_ok _) ha hb (nomark _)
theorem t_isnot (ha : PE X a (tM c W fa)) (hb : PE X b (tM c W fb)) : PT X (.Compare a [.IsNot] [b] pos) (tT c W (mTst (mBin (gIs true) fa fb))) := t_cmp op_notA (gIs_ok _) ha hb (nomark _)
end
end Am
/-! ### Am: equality, built-in calls, subscripts, slices, methods of lists -/
namespace Am
open PySem PySem.Spec PyProof.Rows L2
/-! == -/
mutual
def D.py : D → Option PyData
  | .non => some .none
  | .bl b => some (.bool b)
  | .int i => some (.int i)
  | .str x => some (.str x)
  | .list ds => (D.pys ds).map .list
  | .scr ds => (D.pys ds).map .list
  | .tup ds => (D.pys ds).map .tuple
  | .kt ds => (D.pys ds).map .tuple
  | _ => none
def D.pys : List D → Option (List PyData)
  | [] => some []
  | d :: ds => match D.py d, D.pys ds with
    | some x, some xs => some (x :: xs)
    | _, _ => none
end
/-- the data of a value -/
def peek (st : Store) : A → Option D
  | .d x => some x
  | .c i => match st[i]? with
    | some (.lst xs) => (allD xs).map .list
    | some (.dK kvs) => none
    | some (.fz x) => some x
    | _ => none
section
variable {c : Ctx} {G H : Hp}
mutual
theorem DR.dp (sm : Same G H) : ∀ {d : D} {v : V} {p : PyData}, DR c G d v → d.py = some p → Dp c.K H v p
  | .non, _, _, h, e => by cases e; cases h; exact .non
  | .bl _, _, _, h, e => by cases e; cases h; exact .bl _
  | .int _, _, _, h, e => by cases e; cases h; exact .int _
  | .str _, _, _, h, e => by cases e; cases h; exact .str _
  | .list _, _, _, ⟨a, vs, h1, h2, h3⟩, e => by
    obtain ⟨ps, e1, rfl⟩ := Option.map_eq_some_iff.mp e
    subst h1
    exact .lst (.of (sm _ _ h2)) (DRs.dp sm h3 e1)
  | .scr _, _, _, ⟨a, vs, h1, h2, h3⟩, e => by
    obtain ⟨ps, e1, rfl⟩ := Option.map_eq_some_iff.mp e
    subst h1
    exact .lst (sm.seq h2) (DRs.dp sm h3 e1)
  | .tup _, _, _, ⟨a, vs, h1, h2, h3⟩, e => by
    obtain ⟨ps, e1, rfl⟩ := Option.map_eq_some_iff.mp e
    subst h1
    exact .tup (.of (sm _ _ h2)) (DRs.dp sm h3 e1)
  | .kt _, _, _, ⟨a, vs, h1, h2, h3⟩, e => by
    obtain ⟨ps, e1, rfl⟩ := Option.map_eq_some_iff.mp e
    subst h1
    exact .tup (same_t sm h2) (DRs.dp sm h3 e1)
  | .dK _, _, _, _, e => nomatch e
  | .dT _, _, _, _, e => nomatch e
  | .ins _ _, _, _, _, e => nomatch e
  | .fn _, _, _, _, e => nomatch e
theorem DRs.dp (sm : Same G H) : ∀ {ds : List D} {vs : List V} {ps : List PyData}, DRs c G ds vs → D.pys ds = some ps → DpAll c.K H vs ps
  | [], _, _, h, e => by cases e; cases h; exact .nil
  | d :: ds, _, _, ⟨v, r, h1, h2, h3⟩, e => by
    unfold D.pys at e
    split at e
    · rename_i x xs e1 e2
      cases e
      subst h1
      exact .cons (DR.dp sm h2 e1) (DRs.dp sm h3 e2)
    · cases e
end
theorem peek_dp {w : Wd} {st : Store} (rl : RelS c w st H) : ∀ {x : A} {v : V} {d : D} {p : PyData}, RA c w st.length v x → peek st x = some d → d.py = some p → Dp c.K H v p
  | .d x, v, d, p, r, h, e => by cases h; exact DR.dp rl.same r e
  | .c i, v, d, p, ⟨_, ev⟩, h, e => by
    have h : (match st[i]? with | some (.lst xs) => (allD xs).map D.list | some (.dK _) => none | some (.fz x) => some x | _ => none) = some d := h
    split at h
    · rename_i q
      obtain ⟨ds, hd, rfl⟩ := Option.map_eq_some_iff.mp h
      obtain ⟨_, vs, e2, pr⟩ := rl.cell _ _ q
      rw [allD_eq hd] at pr
      obtain ⟨ps, e1, rfl⟩ := Option.map_eq_some_iff.mp e
      rw [ev]
      exact .lst (.of e2) (DRs.dp rl.same (ras_of_d pr) e1)
    · cases h
    · rename_i q
      cases h
      rw [ev]
      exact DR.dp rl.same (rl.cell _ _ q).1 e
    · cases h
end
noncomputable def gEq (neg : Bool) : A → A → Store → Res A := fun x y st => match (peek st x).bind D.py, (peek st y).bind D.py with
  | some a, some b => need (SeqAt.shaped a = true ∧ SeqAt.shaped b = true) (.ok (.d (.bl (if neg then !PyData.eqv a b else PyData.eqv a b))) st)
  | _, _ => .no
def rEqN (K : PySem.W.Frag) (neg : Bool) : R2 := fun x y H Q => ∃ d e, Dp K H x d ∧ Dp K H y e ∧ SeqAt.shaped d = true ∧ SeqAt.shaped e = true ∧ Q (.bl (if neg then !PyData.eqv d e else PyData.eqv d e)) H
section
variable {X : Cx} {c : Ctx} {W : WX} {a b e : Expr} {fa fb f : ME} {pos : Pos} {k : Nat}
theorem gEq_ok (neg : Bool) : OpA c (rEqN c.K neg) (gEq neg) := by
  intro w σa st σ H x y v u W Q rl rx ry p
  unfold gEq at p
  split at p
  · rename_i a b ha hb
    obtain ⟨⟨h1, h2⟩, p⟩ := p.need
    obtain ⟨da, e1, e2⟩ := Option.bind_eq_some_iff.mp ha
    obtain ⟨db, e3, e4⟩ := Option.bind_eq_some_iff.mp hb
    exact ⟨_, _, peek_dp rl.rs rx e1 e2, peek_dp rl.rs ry e3 e4, h1, h2, p.here rl rfl⟩
  · exact p.elim
theorem op_eqA (hr : Room k X.A) (F : Fits X c) : OpR X (compareOp .Eq) (rEqN c.K false) := by rw [← F.K]; exact op_eqD hr.units
theorem op_neA (hr : Room k X.A) (F : Fits X c) : OpR X (compareOp .NotEq) (rEqN c.K true) := by rw [← F.K]; exact op_neD hr.units
theorem e_eq (hr : Room k X.A) (ha : PE X a (tM c W fa)) (hb : PE X b (tM c W fb)) (F : Fits X c := by exact ⟨rfl, rfl⟩) : PE X (.Compare a [.Eq] [b] pos) (tM c W (mBin (gEq false) fa fb)) := e_cmp (op_eqA hr F) (gEq_ok _) ha hb (nomark _)
theorem t_eq (hr : Room k X.A) (ha : PE X a (tM c W fa)) (hb : PE X b (tM c W fb)) (F : Fits X c := by exact ⟨rfl, rfl⟩) : PT X (.Compare a [.Eq] [b] pos) (tT c W (mTst (mBin (gEq false) fa fb))) := t_cmp (op_eqA hr F) (gEq_ok _) ha hb (nomark _)
theorem e_ne (hr : Room k X.A) (ha : PE X a (tM c W fa)) (hb : PE X b (tM c W fb)) (F : Fits X c := by exact ⟨rfl, rfl⟩) : PE X (.Compare a [.NotEq] [b] pos) (tM c W (mBin (gEq true) fa fb)) := e_cmp (op_neA hr F) (gEq_ok _) ha hb (nomark _)
theorem t_ne (hr : Room k X.A) (ha : PE X a (tM c W fa)) (hb : PE X b (tM c W fb)) (F : Fits X c := by exact ⟨rfl, rfl⟩) : PT X (.Compare a [.NotEq] [b] pos) (tT c W (mTst (mBin (gEq true) fa fb))) := t_cmp (op_neA hr F) (gEq_ok _) ha hb (nomark _)
end

/-! ### calls of built-ins -/
abbrev GC := List A → Store → Res A
def CallA (c : Ctx) (r : List V → Hp → VK → Prop) (g : GC) : Prop := ∀ (w : Wd) (σa : Slots) (st : Store) (σ : L2.St) (H : Hp) (xs : List A) (vs : List V) (W : WX) (Q : VK),
  Rel c w σa st σ H → Paired (RA c w st.length) vs xs → Post c w st.length σa σ (RA c) W Q (g xs st) → r vs H Q
theorem CallR.or {X : Cx} {f : Value} {r r' : List V → Hp → VK → Prop} (h : CallR X f r) (h' : CallR X f r') : CallR X f (fun xs H Q => r xs H Q ∨ r' xs H Q) := by
  intro pins s σ H xs us Q I rx q
  rcases q with q | q
  · exact h pins s σ H xs us Q I rx q
  · exact h' pins s σ H xs us Q I rx q
def mCallB (g : GC) (fs : MA) : ME := fun σ st => (fs σ st).bind fun xs st1 => g xs st1
noncomputable def gLen : GC
  | [x], st => match viewS st x with
    | some xs => .ok (.d (.int xs.length)) st
    | none => match x with
      | .d (.tup ds) => .ok (.d (.int ds.length)) st
      | .d (.kt ds) => .ok (.d (.int ds.length)) st
      | .d (.str z) => ifc (z.length ≤ SZ) (.ok (.d (.int z.length)) st) .no
      | .d (.dK ds) => .ok (.d (.int ds.length)) st
      | .d (.dT ds) => .ok (.d (.int ds.length)) st
      | .c i => match st[i]? with
        | some (.dK ds) => .ok (.d (.int ds.length)) st
        | some (.dT ds) => .ok (.d (.int ds.length)) st
        | some (.fz (.dK ds)) => .ok (.d (.int ds.length)) st
        | some (.fz (.dT ds)) => .ok (.d (.int ds.length)) st
        | _ => .no
      | _ => .no
  | _, _ => .no
def gInt : GC
  | [.d (.int i)], st => .ok (.d (.int i)) st
  | [.d (.bl b)], st => .ok (.d (.int (if b then 1 else 0))) st
  | _, _ => .no
def gMax : GC
  | [.d (.int i), .d (.int j)], st => .ok (.d (.int (if j > i then j else i))) st
  | _, _ => .no
def gMin : GC
  | [.d (.int i), .d (.int j)], st => .ok (.d (.int (if j < i then j else i))) st
  | _, _ => .no
def gOrd : GC
  | [.d (.str x)], st => if x.length = 1 then .ok (.d (.int (x.cps.getD 0 0 : Nat))) st else .no
  | _, _ => .no
noncomputable def gListOf (k : Bool) : GC
  | [x], st => match viewS st x with
    | some xs => mkL k xs st
    | none => match viewT x with
      | some ds => mkL k (ds.map .d) st
      | none => .no
  | _, _ => .no
noncomputable def gTupOf : GC
  | [x], st => match viewT x with
    | some _ => .ok x st
    | none => match viewS st x with
      | some xs => mkT xs st
      | none => .no
  | _, _ => .no
def rLenK2 : List V → Hp → VK → Prop := fun xs H Q => ∃ a kvs, xs = [V.ref a] ∧ Rd H a (.dK kvs) ∧ Q (.int ((kvs.length : Nat) : Int)) H
def rLenT2 : List V → Hp → VK → Prop := fun xs H Q => ∃ (p : Addr) (kvs : List (List Key × V)), xs = [V.ref p] ∧ Rd H p (.dT kvs) ∧ Q (.int ((kvs.length : Nat) : Int)) H
theorem call_lenK2 {X : Cx} : CallR X (.builtin "len") rLenK2 := by
  intro pins s σ H xs us Q I r h
  obtain ⟨a, kvs, rfl, ha, q⟩ := h
  obtain ⟨u, rfl, ru⟩ := vals1 r
  cases ru
  exact d_len I ha fun t s' I' => ⟨.int kvs.length, H, I', ⟨t, rfl⟩, q⟩
theorem call_lenT2 {X : Cx} : CallR X (.builtin "len") rLenT2 := by
  intro pins s σ H xs us Q I r h
  obtain ⟨p, kvs, rfl, hp, q⟩ := h
  obtain ⟨u, rfl, rx⟩ := vals1 r
  obtain rfl : u = .ref p := rx
  obtain ⟨z, hd, ys, rel, dd⟩ := dt_rd I.hok hp
  have hl : kvs.length = ys.length := Paired.length rel
  refine call_len_dictH hd dd (by rw [← hl]; rw [sizeLine_eq] at z; omega) ?_
  rw [← hl]
  exact ⟨.int ((kvs.length : Nat) : Int), H, I.tok _, ⟨_, rfl⟩, q⟩
def rLenA2 (K : PySem.W.Frag) : List V → Hp → VK → Prop := fun xs H Q => (∃ x n, xs = [x] ∧ LenV K x H n ∧ Q (.int n) H) ∨ (rLenK2 xs H Q ∨ rLenT2 xs H Q)
section
variable {X : Cx} {c : Ctx} {W : WX} {a b e : Expr} {es : List Expr} {fa fb f : ME} {fs : MA} {p pos : Pos}
theorem pr1 {α β : Type} {F : α → β → Prop} {vs : List α} {b : β} (h : Paired F vs [b]) : ∃ a, vs = [a] ∧ F a b := by
  cases h with
  | cons r t => cases t; exact ⟨_, rfl, r⟩
theorem pr2 {α β : Type} {F : α → β → Prop} {vs : List α} {b b' : β} (h : Paired F vs [b, b']) : ∃ a a', vs = [a, a'] ∧ F a b ∧ F a' b' := by
  cases h with
  | cons r t => obtain ⟨a', rfl, r'⟩ := pr1 t; exact ⟨_, _, rfl, r, r'⟩
theorem pr3 {α β : Type} {F : α → β → Prop} {vs : List α} {b b' b2 : β} (h : Paired F vs [b, b', b2]) : ∃ a a' a2, vs = [a, a', a2] ∧ F a b ∧ F a' b' ∧ F a2 b2 := by
  cases h with
  | cons r t => obtain ⟨a', a2, rfl, r', r2⟩ := pr2 t; exact ⟨_, _, _, rfl, r, r', r2⟩
theorem entail_cb {r : List V → Hp → VK → Prop} {g : GC} (hg : CallA c r g) (σ : L2.St) (H : Hp) (Q : VK) : tM c W (mCallB g fs) σ H Q → tCB r (tMA c W fs) σ H Q := fun ⟨w, σa, st, rl, p⟩ =>
  ⟨w, σa, st, rl, p.bind fun vs xs st1 w1 H1 _ rl1 rx p1 => hg w1 σa st1 σ H1 xs vs W Q rl1 rx p1⟩
theorem e_callB {id : String} {x : Str} {r : List V → Hp → VK → Prop} {g : GC} (hc : CallR X (.builtin id) r) (hg : CallA c r g) (hgl : Gl X x) (hm : c.mg x = none) (hv : bootBuiltins x = some (.builtin id)) (ha : PA X (e :: es) (tMA c W fs)) (F : Fits X c) (hn : x ≠ "__name__" := by decide) (hdb : (x == ("__debug__" : Str)) = false := by decide)
    (he : starEach (e :: es) X.env = (false, eval e X.env) :: starEach es X.env := by rfl) (hpl : (backTo pos (starEach es X.env)).any (·.1) = false := by rfl) : PE X (.Call (.Name x p) (e :: es) [] pos) (tM c W (mCallB g fs)) :=
  pe_imp (pe_callB hc hgl (by rw [F.mg]; exact hm) hv ha hn hdb he hpl) (entail_cb hg)
theorem e_callTy {T : String} {x : Str} {r : List V → Hp → VK → Prop} {g : GC} (hc : CallR X (.type T) r) (hg : CallA c r g) (hgl : Gl X x) (hm : c.mg x = none) (hv : bootBuiltins x = some (.type T)) (ha : PA X (e :: es) (tMA c W fs)) (F : Fits X c) (hn : x ≠ "__name__" := by decide) (hdb : (x == ("__debug__" : Str)) = false := by decide)
    (he : starEach (e :: es) X.env = (false, eval e X.env) :: starEach es X.env := by rfl) (hpl : (backTo pos (starEach es X.env)).any (·.1) = false := by rfl) : PE X (.Call (.Name x p) (e :: es) [] pos) (tM c W (mCallB g fs)) :=
  pe_imp (pe_callTy hc hgl (by rw [F.mg]; exact hm) hv ha hn hdb he hpl) (entail_cb hg)
theorem dr_len {G H : Hp} (sm : Same G H) {ds : List (Key × D)} {v : V} (r : DR c G (.dK ds) v) : ∃ a us, v = .ref a ∧ Rd H a (.dK us) ∧ us.length = ds.length := by
  obtain ⟨a, us, rfl, e, p⟩ := r
  exact ⟨a, us, rfl, same_rd sm e, p.pair.length⟩
theorem dr_lenT {G H : Hp} (sm : Same G H) {ds : List (List Key × D)} {v : V} (r : DR c G (.dT ds) v) : ∃ a us, v = .ref a ∧ Rd H a (.dT us) ∧ us.length = ds.length := by
  obtain ⟨a, us, rfl, e, p⟩ := r
  exact ⟨a, us, rfl, same_rd sm e, p.pair.length⟩
theorem gLen_ok : CallA c (rLenA2 c.K) gLen := by
  intro w σa st σ H xs vs W Q rl rxs p
  unfold gLen at p
  simp only [ifc] at p
  split at p
  · obtain ⟨v, rfl, rx⟩ := pr1 rxs
    split at p
    · rename_i hv
      obtain ⟨_, us, rfl, q, pr⟩ := viewS_ok rl.rs rx hv
      exact .inl ⟨_, us.length, rfl, .inl ⟨us, q, rfl⟩, by rw [pr.length]; exact p.here rl rfl⟩
    · split at p
      · obtain ⟨_, us, rfl, q, pr⟩ := rx
        exact .inl ⟨_, us.length, rfl, .inr ⟨us, .of (rl.rs.same _ _ q), rfl⟩, by rw [pr.pair.length]; exact p.here rl rfl⟩
      · obtain ⟨_, us, rfl, q, pr⟩ := rx
        exact .inl ⟨_, us.length, rfl, .inr ⟨us, same_t rl.rs.same q, rfl⟩, by rw [pr.pair.length]; exact p.here rl rfl⟩
      · split at p
        · rename_i hl
          cases rx
          exact .inl ⟨_, _, rfl, ⟨SZ_le hl, rfl⟩, p.here rl rfl⟩
        · exact p.elim
      · obtain ⟨_, us, rfl, q, hl⟩ := dr_len rl.rs.same rx
        exact .inr (.inl ⟨_, us, rfl, q, by rw [hl]; exact p.here rl rfl⟩)
      · obtain ⟨_, us, rfl, q, hl⟩ := dr_lenT rl.rs.same rx
        exact .inr (.inr ⟨_, us, rfl, q, by rw [hl]; exact p.here rl rfl⟩)
      · split at p
        · rename_i hq
          obtain ⟨_, us, q, pr⟩ := rl.rs.cell _ _ hq
          rw [rx.2]
          exact .inr (.inl ⟨_, us, rfl, .inl q, by rw [pr.length]; exact p.here rl rfl⟩)
        · rename_i hq
          obtain ⟨_, us, q, pr⟩ := rl.rs.cell _ _ hq
          rw [rx.2]
          exact .inr (.inr ⟨_, us, rfl, .inl q, by rw [pr.length]; exact p.here rl rfl⟩)
        · rename_i hq
          obtain ⟨_, us, e, q, hl⟩ := dr_len rl.rs.same (rl.rs.cell _ _ hq).1
          rw [rx.2, e]
          exact .inr (.inl ⟨_, us, rfl, q, by rw [hl]; exact p.here rl rfl⟩)
        · rename_i hq
          obtain ⟨_, us, e, q, hl⟩ := dr_lenT rl.rs.same (rl.rs.cell _ _ hq).1
          rw [rx.2, e]
          exact .inr (.inr ⟨_, us, rfl, q, by rw [hl]; exact p.here rl rfl⟩)
        · exact p.elim
      · exact p.elim
  · exact p.elim
theorem gInt_ok : CallA c (fun xs H Q => (∃ i, xs = [.int i] ∧ Q (.int i) H) ∨ ∃ k, xs = [.bl k] ∧ Q (.int (if k then 1 else 0)) H) gInt := by
  intro w σa st σ H xs vs W Q rl rxs p
  unfold gInt at p
  split at p
  · obtain ⟨v, rfl, rx⟩ := pr1 rxs
    cases rx
    exact .inl ⟨_, rfl, p.here rl rfl⟩
  · obtain ⟨v, rfl, rx⟩ := pr1 rxs
    cases rx
    exact .inr ⟨_, rfl, p.here rl rfl⟩
  · exact p.elim
theorem gMax_ok : CallA c (fun xs H Q => ∃ i j, xs = [.int i, .int j] ∧ Q (.int (if j > i then j else i)) H) gMax := by
  intro w σa st σ H xs vs W Q rl rxs p
  unfold gMax at p
  split at p
  · obtain ⟨v, u, rfl, rx, ry⟩ := pr2 rxs
    cases rx
    cases ry
    exact ⟨_, _, rfl, p.here rl rfl⟩
  · exact p.elim
theorem gMin_ok : CallA c (fun xs H Q => ∃ i j, xs = [.int i, .int j] ∧ Q (.int (if j < i then j else i)) H) gMin := by
  intro w σa st σ H xs vs W Q rl rxs p
  unfold gMin at p
  split at p
  · obtain ⟨v, u, rfl, rx, ry⟩ := pr2 rxs
    cases rx
    cases ry
    exact ⟨_, _, rfl, p.here rl rfl⟩
  · exact p.elim
theorem gOrd_ok : CallA c (fun xs H Q => ∃ x, xs = [.str x] ∧ x.length = 1 ∧ Q (.int (x.cps.getD 0 0 : Nat)) H) gOrd := by
  intro w σa st σ H xs vs W Q rl rxs p
  unfold gOrd at p
  split at p
  · obtain ⟨v, rfl, rx⟩ := pr1 rxs
    cases rx
    split at p
    · rename_i h
      exact ⟨_, rfl, h, p.here rl rfl⟩
    · exact p.elim
  · exact p.elim
theorem gListOf_ok (k : Bool) : CallA c (fun xs H Q => ∃ p ys, xs = [.ref p] ∧ (SqL c.K H p ys ∨ SqT c.K H p ys) ∧ ∀ l, H l = none → Q (.ref l) (upd H l (.lst ys))) (gListOf k) := by
  intro w σa st σ H xs vs W Q rl rxs p
  unfold gListOf at p
  split at p
  · obtain ⟨v, rfl, rx⟩ := pr1 rxs
    split at p
    · rename_i hv
      obtain ⟨_, us, rfl, q, pr⟩ := viewS_ok rl.rs rx hv
      exact ⟨_, us, rfl, .inl q, (mkL_ok rl pr p).2⟩
    · split at p
      · rename_i hv
        obtain ⟨_, us, rfl, q, pr⟩ := viewT_ok rl.rs rx hv
        exact ⟨_, us, rfl, .inr q, (mkL_ok rl (ras_d pr) p).2⟩
      · exact p.elim
  · exact p.elim
theorem gTupOf_ok : CallA c (fun xs H Q => ∃ p ys, xs = [.ref p] ∧ ((SqL c.K H p ys ∧ ∀ l, H l = none → Q (.ref l) (upd H l (.tup ys))) ∨ (SqT c.K H p ys ∧ Q (.ref p) H))) gTupOf := by
  intro w σa st σ H xs vs W Q rl rxs p
  unfold gTupOf at p
  split at p
  · obtain ⟨v, rfl, rx⟩ := pr1 rxs
    split at p
    · rename_i x ds hv
      have rx0 := rx
      obtain ⟨a, us, rfl, q, pr⟩ := viewT_ok rl.rs rx hv
      exact ⟨_, us, rfl, .inr ⟨q, p.here rl rx0⟩⟩
    · split at p
      · rename_i hv
        obtain ⟨_, us, rfl, q, pr⟩ := viewS_ok rl.rs rx hv
        exact ⟨_, us, rfl, .inl ⟨q, (mkT_ok rl pr p).2⟩⟩
      · exact p.elim
  · exact p.elim
theorem e_len (ha : PA X (e :: []) (tMA c W fs)) (hm : c.mg "len" = none) (hgl : Gl X "len" := by rfl) (F : Fits X c := by exact ⟨rfl, rfl⟩) (he : starEach (e :: []) X.env = (false, eval e X.env) :: starEach [] X.env := by rfl) (hpl : (backTo pos (starEach [] X.env)).any (·.1) = false := by rfl) : PE X (.Call (.Name "len" p) [e] [] pos) (tM c W (mCallB gLen fs)) := by
  refine e_callB (r := rLenA2 c.K) ?_ gLen_ok hgl hm PySem.boot_len ha F (by decide) (by decide) he hpl
  rw [← F.K]
  exact CallR.or call_len (CallR.or call_lenK2 call_lenT2)
theorem e_intc (ha : PA X (e :: []) (tMA c W fs)) (hm : c.mg "int" = none) (hgl : Gl X "int" := by rfl) (F : Fits X c := by exact ⟨rfl, rfl⟩) (he : starEach (e :: []) X.env = (false, eval e X.env) :: starEach [] X.env := by rfl) (hpl : (backTo pos (starEach [] X.env)).any (·.1) = false := by rfl) : PE X (.Call (.Name "int" p) [e] [] pos) (tM c W (mCallB gInt fs)) :=
  e_callTy call_int1 gInt_ok hgl hm boot_int ha F (by decide) (by decide) he hpl
theorem e_max (hc : X.calm = true) (ha : PA X (a :: [b]) (tMA c W fs)) (hm : c.mg "max" = none) (hgl : Gl X "max" := by rfl) (F : Fits X c := by exact ⟨rfl, rfl⟩) (he : starEach (a :: [b]) X.env = (false, eval a X.env) :: starEach [b] X.env := by rfl) (hpl : (backTo pos (starEach [b] X.env)).any (·.1) = false := by rfl) : PE X (.Call (.Name "max" p) [a, b] [] pos) (tM c W (mCallB gMax fs)) :=
  e_callB (call_max2 hc) gMax_ok hgl hm (by decide +kernel) ha F (by decide) (by decide) he hpl
theorem e_min (hc : X.calm = true) (ha : PA X (a :: [b]) (tMA c W fs)) (hm : c.mg "min" = none) (hgl : Gl X "min" := by rfl) (F : Fits X c := by exact ⟨rfl, rfl⟩) (he : starEach (a :: [b]) X.env = (false, eval a X.env) :: starEach [b] X.env := by rfl) (hpl : (backTo pos (starEach [b] X.env)).any (·.1) = false := by rfl) : PE X (.Call (.Name "min" p) [a, b] [] pos) (tM c W (mCallB gMin fs)) :=
  e_callB (call_min2 hc) gMin_ok hgl hm (by decide +kernel) ha F (by decide) (by decide) he hpl
theorem e_ord (ha : PA X (e :: []) (tMA c W fs)) (hm : c.mg "ord" = none) (hgl : Gl X "ord" := by rfl) (F : Fits X c := by exact ⟨rfl, rfl⟩) (he : starEach (e :: []) X.env = (false, eval e X.env) :: starEach [] X.env := by rfl) (hpl : (backTo pos (starEach [] X.env)).any (·.1) = false := by rfl) : PE X (.Call (.Name "ord" p) [e] [] pos) (tM c W (mCallB gOrd fs)) :=
  e_callB call_ord gOrd_ok hgl hm (by decide +kernel) ha F (by decide) (by decide) he hpl
theorem e_listc (k : Bool) (ha : PA X (e :: []) (tMA c W fs)) (hm : c.mg "list" = none) (hgl : Gl X "list" := by rfl) (F : Fits X c := by exact ⟨rfl, rfl⟩) (he : starEach (e :: []) X.env = (false, eval e X.env) :: starEach [] X.env := by rfl) (hpl : (backTo pos (starEach [] X.env)).any (·.1) = false := by rfl) : PE X (.Call (.Name "list" p) [e] [] pos) (tM c W (mCallB (gListOf k) fs)) := by
  refine e_callTy (T := "list") (r := fun xs H Q => ∃ p ys, xs = [.ref p] ∧ (SqL c.K H p ys ∨ SqT c.K H p ys) ∧ ∀ l, H l = none → Q (.ref l) (upd H l (.lst ys))) ?_ (gListOf_ok k) hgl hm (by decide +kernel) ha F (by decide) (by decide) he hpl
  rw [← F.K]
  exact call_list_of
theorem e_tuplec (ha : PA X (e :: []) (tMA c W fs)) (hm : c.mg "tuple" = none) (hgl : Gl X "tuple" := by rfl) (F : Fits X c := by exact ⟨rfl, rfl⟩) (he : starEach (e :: []) X.env = (false, eval e X.env) :: starEach [] X.env := by rfl) (hpl : (backTo pos (starEach [] X.env)).any (·.1) = false := by rfl) : PE X (.Call (.Name "tuple" p) [e] [] pos) (tM c W (mCallB gTupOf fs)) := by
  refine e_callTy (T := "tuple") (r := fun xs H Q => ∃ p ys, xs = [.ref p] ∧ ((SqL c.K H p ys ∧ ∀ l, H l = none → Q (.ref l) (upd H l (.tup ys))) ∨ (SqT c.K H p ys ∧ Q (.ref p) H))) ?_ gTupOf_ok hgl hm (by decide +kernel) ha F (by decide) (by decide) he hpl
  rw [← F.K]
  exact call_tuple_of
end

/-! ### subscripts -/
theorem paired_at {α β : Type} {F : α → β → Prop} {l₁ : List α} {l₂ : List β} {i : Int} {b : β} (h : Paired F l₁ l₂) (e : atI l₂ i = some b) : ∃ a, atI l₁ i = some a ∧ F a b := by
  unfold atI at e ⊢
  obtain ⟨j, h1, h2⟩ := Option.bind_eq_some_iff.mp e
  obtain ⟨a, h3, r⟩ := paired_get h h2
  exact ⟨a, by rw [h.length, h1]; exact h3, r⟩
/-- a dict's pairs -/
def viewK (st : Store) : A → Option (List (Key × A))
  | .d (.dK ds) => some (ds.map fun p => (p.1, .d p.2))
  | .c i => match st[i]? with
    | some (.dK xs) => some xs
    | some (.fz (.dK ds)) => some (ds.map fun p => (p.1, .d p.2))
    | _ => none
  | _ => none
def viewDT (st : Store) : A → Option (List (List Key × A))
  | .d (.dT ds) => some (ds.map fun p => (p.1, .d p.2))
  | .c i => match st[i]? with
    | some (.dT xs) => some xs
    | some (.fz (.dT ds)) => some (ds.map fun p => (p.1, .d p.2))
    | _ => none
  | _ => none
/-- keys -/
def keyD : D → Option Key
  | .int i => some (.inl i)
  | .str x => some (.inr x)
  | _ => none
def keysD : List D → Option (List Key)
  | [] => some []
  | d :: ds => match keyD d, keysD ds with
    | some k, some ks => some (k :: ks)
    | _, _ => none
def kD : Key → D
  | .inl i => .int i
  | .inr x => .str x
theorem keyD_kD (k : Key) : keyD (kD k) = some k := by cases k <;> rfl
theorem keysD_map : ∀ ks : List Key, keysD (ks.map kD) = some ks
  | [] => rfl
  | k :: ks => by rw [List.map_cons, keysD, keyD_kD, keysD_map ks]
section
variable {c : Ctx} {w : Wd} {n : Nat} {σa : Slots} {st : Store} {σ : L2.St} {H : Hp} {W : WX}
theorem keyD_ok {G : Hp} : ∀ {d : D} {v : V} {k : Key}, DR c G d v → keyD d = some k → v = kV k := by
  intro d v k r h
  cases d with
  | int i => cases h; exact r
  | str x => cases h; exact r
  | _ => cases h
theorem keysD_ok {G : Hp} : ∀ {ds : List D} {vs : List V} {ks : List Key}, DRs c G ds vs → keysD ds = some ks → vs = ks.map kV
  | [], _, _, h, e => by cases e; exact h
  | d :: ds, _, _, ⟨v, r, h1, h2, h3⟩, e => by
    unfold keysD at e
    split at e
    · rename_i k ks e1 e2
      cases e
      rw [h1, keyD_ok h2 e1, keysD_ok h3 e2]
      rfl
    · cases e
theorem kas_d {κ : Type} {us : List (κ × V)} {ds : List (κ × D)} (h : Paired (KD fun v d => DR c w.G d v) us ds) : Paired (KD (RA c w n)) us (ds.map fun p => (p.1, .d p.2)) :=
  paired_map (F := KD (RA c w n)) (fun p : κ × D => (p.1, A.d p.2)) (paired_imp h fun _ _ q => q)
theorem viewK_ok (rl : RelS c w st H) : ∀ {x : A} {v : V} {xs : List (Key × A)}, RA c w st.length v x → viewK st x = some xs → ∃ a us, v = .ref a ∧ Rd H a (.dK us) ∧ Paired (KD (RA c w st.length)) us xs
  | .d x, v, xs, r, h => by
    cases x with
    | dK ds =>
      cases h
      obtain ⟨a, us, rfl, e, p⟩ := r
      exact ⟨a, us, rfl, same_rd rl.same e, kas_d p.pair⟩
    | _ => cases h
  | .c i, v, xs, ⟨h1, h2⟩, h => by
    have h : (match st[i]? with | some (.dK xs) => some xs | some (.fz (.dK ds)) => some (ds.map fun p => (p.1, A.d p.2)) | _ => none) = some xs := h
    split at h
    · rename_i q
      cases h
      obtain ⟨_, us, e, p⟩ := rl.cell _ _ q
      exact ⟨_, us, h2, .inl e, p⟩
    · rename_i q
      cases h
      obtain ⟨⟨a, us, e0, e, p⟩, _⟩ := rl.cell _ _ q
      cases e0
      exact ⟨_, us, h2, same_rd rl.same e, kas_d p.pair⟩
    · cases h
theorem viewDT_ok (rl : RelS c w st H) : ∀ {x : A} {v : V} {xs : List (List Key × A)}, RA c w st.length v x → viewDT st x = some xs → ∃ a us, v = .ref a ∧ Rd H a (.dT us) ∧ Paired (KD (RA c w st.length)) us xs
  | .d x, v, xs, r, h => by
    cases x with
    | dT ds =>
      cases h
      obtain ⟨a, us, rfl, e, p⟩ := r
      exact ⟨a, us, rfl, same_rd rl.same e, kas_d p.pair⟩
    | _ => cases h
  | .c i, v, xs, ⟨h1, h2⟩, h => by
    have h : (match st[i]? with | some (.dT xs) => some xs | some (.fz (.dT ds)) => some (ds.map fun p => (p.1, A.d p.2)) | _ => none) = some xs := h
    split at h
    · rename_i q
      cases h
      obtain ⟨_, us, e, p⟩ := rl.cell _ _ q
      exact ⟨_, us, h2, .inl e, p⟩
    · rename_i q
      cases h
      obtain ⟨⟨a, us, e0, e, p⟩, _⟩ := rl.cell _ _ q
      cases e0
      exact ⟨_, us, h2, same_rd rl.same e, kas_d p.pair⟩
    · cases h
end
end Am
/-! ### Am: subscripts, in, slices, stores, fields, methods -/
namespace Am
open PySem PySem.Spec PyProof.Rows L2
/-! tables -/
section
variable {κ α : Type} [DecidableEq κ]
def lookK (kvs : List (κ × α)) (k : κ) : Option α := (kvs.find? fun kv => decide (kv.1 = k)).map (·.2)
def putA (kvs : List (κ × α)) (k : κ) (v : α) : List (κ × α) :=
  if (kvs.any fun kv => decide (kv.1 = k)) = true then kvs.map (fun kv => if kv.1 = k then (kv.1, v) else kv) else kvs ++ [(k, v)]
def dropA (kvs : List (κ × α)) (k : κ) : List (κ × α) := kvs.filter fun kv => decide (kv.1 ≠ k)
variable {F : V → α → Prop}
theorem lookK_ok {k : κ} : ∀ {us : List (κ × V)} {xs : List (κ × α)}, Paired (KD F) us xs → (lookK xs k = none → valV us k = none) ∧ ∀ a, lookK xs k = some a → ∃ v, valV us k = some v ∧ F v a
  | _, _, .nil => ⟨fun _ => rfl, fun a h => by cases h⟩
  | _, _, .cons (a := (k1, v)) (b := (k2, x)) (l₂ := l2) ⟨e, r⟩ t => by
    have e : k1 = k2 := e
    subst e
    have ih := lookK_ok (k := k) t
    by_cases h : k1 = k
    · refine ⟨fun z => ?_, fun a z => ?_⟩
      · simp [lookK, List.find?_cons, h] at z
      · simp only [lookK, List.find?_cons, h, decide_true, Option.map_some] at z
        cases z
        exact ⟨v, valV_pos (p := (k1, v)) h, r⟩
    · have e1 : lookK ((k1, x) :: l2) k = lookK l2 k := by unfold lookK; rw [List.find?_cons]; simp only [h, decide_false]
      rw [e1, valV_neg (p := (k1, v)) h]
      exact ih
theorem any_ok {k : κ} : ∀ {us : List (κ × V)} {xs : List (κ × α)}, Paired (KD F) us xs → (us.any fun kv => decide (kv.1 = k)) = xs.any fun kv => decide (kv.1 = k)
  | _, _, .nil => rfl
  | _, _, .cons ⟨e, r⟩ t => by rw [List.any_cons, List.any_cons, e, any_ok t]
theorem paired_upd {k : κ} {v : V} {a : α} (r : F v a) : ∀ {us : List (κ × V)} {xs : List (κ × α)}, Paired (KD F) us xs → Paired (KD F) (us.map fun kv => if kv.1 = k then (kv.1, v) else kv) (xs.map fun kv => if kv.1 = k then (kv.1, a) else kv)
  | _, _, .nil => .nil
  | _, _, .cons (a := (k1, v1)) (b := (k2, x2)) ⟨e, q⟩ t => by
    have e : k1 = k2 := e
    subst e
    refine .cons ?_ (paired_upd r t)
    show KD F (if k1 = k then (k1, v) else (k1, v1)) (if k1 = k then (k1, a) else (k1, x2))
    by_cases z : k1 = k
    · rw [if_pos z, if_pos z]; exact ⟨rfl, r⟩
    · rw [if_neg z, if_neg z]; exact ⟨rfl, q⟩
theorem putA_ok {k : κ} {v : V} {a : α} (r : F v a) {us : List (κ × V)} {xs : List (κ × α)} (h : Paired (KD F) us xs) : Paired (KD F) (putK us k v) (putA xs k a) := by
  unfold putK putA
  rw [any_ok h]
  split
  · exact paired_upd r h
  · exact paired_append h (.cons ⟨rfl, r⟩ .nil)
theorem dropA_ok {k : κ} {us : List (κ × V)} {xs : List (κ × α)} (h : Paired (KD F) us xs) : Paired (KD F) (dropK us k) (dropA xs k) := by
  unfold dropK dropA
  induction h with
  | nil => exact .nil
  | @cons p q l1 l2 pq _ ih =>
    rw [List.filter_cons, List.filter_cons, pq.1]
    split
    · exact .cons pq ih
    · exact ih
end
/-! x[i] -/
def keysT (y : A) : Option (List Key) := match y with
  | .d (.tup ds) => keysD ds
  | _ => none
def keyA (y : A) : Option Key := match y with
  | .d d => keyD d
  | .c _ => none
noncomputable def gIx : A → A → Store → Res A := fun x y st => match x, y with
  | .d (.str z), .d (.int i) => match atI z.cps.toList i with
    | some k => ifc (z.length ≤ SZ) (.ok (.d (.str ⟨#[k]⟩)) st) .no
    | none => .no
  | x, y => match viewS st x with
    | some xs => match y with
      | .d (.int i) => match atI xs i with
        | some a => .ok a st
        | none => .no
      | _ => .no
    | none => match viewT x with
      | some ds => match y with
        | .d (.int i) => match atI ds i with
          | some a => .ok (.d a) st
          | none => .no
        | _ => .no
      | none => match viewK st x with
        | some kvs => match keyA y with
          | some k => match lookK kvs k with
            | some a => .ok a st
            | none => .no
          | none => .no
        | none => match viewDT st x with
          | some kvs => match keysT y with
            | some k => match lookK kvs k with
              | some a => .ok a st
              | none => .no
            | none => .no
          | none => .no
def rIxD : R2 := fun x y H Q => ∃ a v, x = .ref a ∧ DGet H a y (some v) ∧ Q v H
def rIxAll (K : PySem.W.Frag) : R2 := fun x y H Q => rIx K x y H Q ∨ rIxD x y H Q
section
variable {X : Cx} {c : Ctx} {W : WX} {a b e : Expr} {es : List Expr} {fa fb f : ME} {fs : MA} {p pos : Pos} {k : Nat}
theorem OpR.orIx {r r' : R2} (h : IxR X r) (h' : IxR X r') : IxR X (fun x y H Q => r x y H Q ∨ r' x y H Q) := by
  intro value slice pins s σ H x y v u Q I rx ry q
  rcases q with q | q
  · exact h value slice pins s σ H x y v u Q I rx ry q
  · exact h' value slice pins s σ H x y v u Q I rx ry q
theorem ix_dict (hu : X.A.units + 1 < cLine) : IxR X rIxD := by
  intro value slice pins s σ H x y v u Q I rx ry h hs
  obtain ⟨a, z, rfl, g, q⟩ := h
  obtain rfl : v = Value.ref a := rx
  have hT := dict_typeIs I g
  have h2 : wpAny (model X.prog X.w) X.A (getItem (.ref a) u) (EP X pins σ Q) X.xe s := d_getItem hu I g ry fun w' s3 I3 rw' => ⟨z, H, I3, rw', q⟩
  unfold subscriptTail
  refine wpAny_bind ?_
  rw [getitemInPython_of_ne hT.not_modules]
  refine wpAny_bind (wpAny_specialOf hT PySem.F.slot_dict_getitem.lookup ?_)
  have fin : wpAny (model X.prog X.w) X.A (subscripted slice false (.ref a) u) (fun r s₃ => wpAny (model X.prog X.w) X.A (letTemporaryGo value (.ref a) r >>= fun _ => pure r) (EP X pins σ Q) X.xe s₃) X.xe s := by
    rw [hs]
    exact wpAny_operating (wpAny_mono h2 (fun r s₃ h₃ => wpAny_bind (wpAny_letTemporaryGo (wpAny_pure h₃))) fun _ _ x => x)
  first
    | exact wpAny_pure (wpAny_bind fin)
    | exact wpAny_bind (wpAny_pure (wpAny_bind fin))
    | exact wpAny_bind fin
theorem keyA_ok {w : Wd} {n : Nat} {y : A} {u : V} {k : Key} (r : RA c w n u y) (h : keyA y = some k) : u = kV k := by
  cases y with
  | d x => exact keyD_ok r h
  | c i => cases h
theorem keysT_ok {w : Wd} {n : Nat} {H : Hp} (sm : Same w.G H) {y : A} {u : V} {k : List Key} (r : RA c w n u y) (h : keysT y = some k) : ∃ b, u = .ref b ∧ H b = some (.tup (k.map kV)) := by
  unfold keysT at h
  split at h
  · obtain ⟨b, vs, rfl, e, p⟩ := r
    rw [keysD_ok p h] at e
    exact ⟨b, rfl, sm _ _ e⟩
  · cases h
theorem dget_k {H : Hp} {a : Addr} {kvs : List (Key × V)} {k : Key} (e : Rd H a (.dK kvs)) : DGet H a (kV k) (valV kvs k) := .inl ⟨kvs, k, e, rfl, rfl⟩
theorem dget_t {H : Hp} {a b : Addr} {kvs : List (List Key × V)} {k : List Key} (e : Rd H a (.dT kvs)) (eb : H b = some (.tup (k.map kV))) : DGet H a (.ref b) (valV kvs k) := .inr ⟨kvs, k, b, e, rfl, eb, rfl⟩
theorem gIx_ok : OpA c (rIxAll c.K) gIx := by
  intro w σa st σ H x y v u W Q rl rx ry p
  unfold gIx at p
  simp only [ifc] at p
  split at p
  · split at p
    · rename_i hk
      split at p
      · rename_i hz
        exact .inl (.inr (.inr ⟨_, _, _, rx, ry, SZ_le hz, hk, p.here rl rfl⟩))
      · exact p.elim
    · exact p.elim
  · split at p
    · rename_i hv
      obtain ⟨_, us, rfl, q, pr⟩ := viewS_ok rl.rs rx hv
      split at p
      · split at p
        · rename_i ha
          obtain ⟨z, e, r⟩ := paired_at pr ha
          exact .inl (.inl ⟨_, us, _, z, rfl, ry, q, e, p.here rl r⟩)
        · exact p.elim
      · exact p.elim
    · split at p
      · rename_i hv
        obtain ⟨_, us, rfl, q, pr⟩ := viewT_ok rl.rs rx hv
        split at p
        · split at p
          · rename_i ha
            obtain ⟨z, e, r⟩ := paired_at pr.pair ha
            exact .inl (.inr (.inl ⟨_, us, _, z, rfl, ry, q, e, p.here rl r⟩))
          · exact p.elim
        · exact p.elim
      · split at p
        · rename_i hv
          obtain ⟨_, us, rfl, q, pr⟩ := viewK_ok rl.rs rx hv
          split at p
          · rename_i hk
            split at p
            · rename_i ha
              obtain ⟨z, e, r⟩ := (lookK_ok pr).2 _ ha
              have := keyA_ok ry hk
              subst this
              exact .inr ⟨_, z, rfl, by rw [← e]; exact dget_k q, p.here rl r⟩
            · exact p.elim
          · exact p.elim
        · split at p
          · rename_i hv
            obtain ⟨_, us, rfl, q, pr⟩ := viewDT_ok rl.rs rx hv
            split at p
            · rename_i hk
              split at p
              · rename_i ha
                obtain ⟨z, e, r⟩ := (lookK_ok pr).2 _ ha
                obtain ⟨b, rfl, eb⟩ := keysT_ok rl.rs.same ry hk
                exact .inr ⟨_, z, rfl, by rw [← e]; exact dget_t q eb, p.here rl r⟩
              · exact p.elim
            · exact p.elim
          · exact p.elim
theorem ix_all (hr : Room k X.A) (F : Fits X c) : IxR X (rIxAll c.K) := by rw [← F.K]; exact OpR.orIx ix_seq (ix_dict (hu_of hr))
theorem e_ix (hr : Room k X.A) (ha : PE X a (tM c W fa)) (hb : PE X b (tM c W fb)) (hs : PlainIx b := by exact fun _ _ => rfl) (F : Fits X c := by exact ⟨rfl, rfl⟩) : PE X (.Subscript a b pos) (tM c W (mBin gIx fa fb)) :=
  pe_imp (pe_ix (ix_all hr F) ha hb hs) (entail_op gIx_ok)
end
/-! in -/
def flatD : D → Bool
  | .non => true
  | .bl _ => true
  | .int _ => true
  | .str _ => true
  | _ => false
def dV : D → V
  | .bl b => .bl b
  | .int i => .int i
  | .str x => .str x
  | _ => .non
def allFlat (xs : List A) : Option (List D) := (allD xs).bind fun ds => if ds.all flatD then some ds else none
def gIn (neg : Bool) : A → A → Store → Res A := fun y x st => match y, x with
  | .d (.str i), .d (.str j) => .ok (.d (.bl (if neg then !(!(Builtin.Str.occurrences j i 0 j.length 1).isEmpty) else !(Builtin.Str.occurrences j i 0 j.length 1).isEmpty))) st
  | y, x => match viewK st x with
    | some kvs => match keyA y with
      | some k => .ok (.d (.bl (if neg then !(lookK kvs k).isSome else (lookK kvs k).isSome))) st
      | none => .no
    | none => match viewDT st x with
      | some kvs => match keysT y with
        | some k => .ok (.d (.bl (if neg then !(lookK kvs k).isSome else (lookK kvs k).isSome))) st
        | none => .no
      | none => match (match viewS st x with | some xs => some xs | none => (viewT x).map fun ds => ds.map A.d) with
        | some xs => match allFlat xs, y with
          | some ds, .d d => if flatD d then .ok (.d (.bl (if neg then !inV (dV d) (ds.map dV) else inV (dV d) (ds.map dV)))) st else .no
          | _, _ => .no
        | none => .no
def rInS (neg : Bool) : R2 := fun x y H Q => ∃ i j, x = .str i ∧ y = .str j ∧ Q (.bl (if neg then !(!(Builtin.Str.occurrences j i 0 j.length 1).isEmpty) else !(Builtin.Str.occurrences j i 0 j.length 1).isEmpty)) H
def rInD (neg : Bool) : R2 := fun y x H Q => ∃ a o, x = .ref a ∧ DGet H a y o ∧ Q (.bl (if neg then !o.isSome else o.isSome)) H
def rInAll (K : PySem.W.Frag) (neg : Bool) : R2 := fun x y H Q => rInS neg x y H Q ∨ (rInD neg x y H Q ∨ rIn K neg x y H Q)
section
variable {X : Cx} {c : Ctx} {W : WX} {a b e : Expr} {es : List Expr} {fa fb f : ME} {fs : MA} {p pos : Pos} {k : Nat}
theorem flat_ok {G : Hp} : ∀ {d : D} {v : V}, DR c G d v → flatD d = true → v = dV d ∧ flatV v = true := by
  intro d v r h
  cases d with
  | non => cases r; exact ⟨rfl, rfl⟩
  | bl _ => cases r; exact ⟨rfl, rfl⟩
  | int _ => cases r; exact ⟨rfl, rfl⟩
  | str _ => cases r; exact ⟨rfl, rfl⟩
  | _ => cases h
theorem flats_ok {G : Hp} : ∀ {ds : List D} {vs : List V}, DRs c G ds vs → ds.all flatD = true → vs = ds.map dV ∧ vs.all flatV = true
  | [], _, h, _ => by cases h; exact ⟨rfl, rfl⟩
  | d :: ds, _, ⟨v, r, h1, h2, h3⟩, e => by
    rw [List.all_cons, Bool.and_eq_true] at e
    obtain ⟨e1, e2⟩ := flat_ok h2 e.1
    obtain ⟨e3, e4⟩ := flats_ok h3 e.2
    subst h1
    exact ⟨by rw [e1, e3]; rfl, by rw [List.all_cons, e2, e4]; rfl⟩
theorem allFlat_ok {w : Wd} {n : Nat} {xs : List A} {vs : List V} {ds : List D} (r : Paired (RA c w n) vs xs) (h : allFlat xs = some ds) : vs = ds.map dV ∧ vs.all flatV = true := by
  unfold allFlat at h
  obtain ⟨ds', h1, h2⟩ := Option.bind_eq_some_iff.mp h
  split at h2
  · rename_i hf
    cases h2
    rw [allD_eq h1] at r
    exact flats_ok (ras_of_d r) hf
  · cases h2
theorem gIn_ok (neg : Bool) : OpA c (rInAll c.K neg) (gIn neg) := by
  intro w σa st σ H x y v u W Q rl rx ry p
  unfold gIn at p
  split at p
  · exact .inl ⟨_, _, rx, ry, p.here rl rfl⟩
  · split at p
    · rename_i kvs hv
      obtain ⟨_, us, rfl, q, pr⟩ := viewK_ok rl.rs ry hv
      split at p
      · rename_i k hk
        have := keyA_ok rx hk
        subst this
        refine .inr (.inl ⟨_, valV us k, rfl, dget_k q, p.here rl ?_⟩)
        have e : (valV us k).isSome = (lookK kvs k).isSome := by
          cases hl : lookK kvs k with
          | none => rw [(lookK_ok pr).1 hl]; rfl
          | some a => obtain ⟨z, e, _⟩ := (lookK_ok pr).2 _ hl; rw [e]; rfl
        rw [e]
        rfl
      · exact p.elim
    · split at p
      · rename_i kvs hv
        obtain ⟨_, us, rfl, q, pr⟩ := viewDT_ok rl.rs ry hv
        split at p
        · rename_i k hk
          obtain ⟨b, rfl, eb⟩ := keysT_ok rl.rs.same rx hk
          refine .inr (.inl ⟨_, valV us k, rfl, dget_t q eb, p.here rl ?_⟩)
          have e : (valV us k).isSome = (lookK kvs k).isSome := by
            cases hl : lookK kvs k with
            | none => rw [(lookK_ok pr).1 hl]; rfl
            | some a => obtain ⟨z, e, _⟩ := (lookK_ok pr).2 _ hl; rw [e]; rfl
          rw [e]
          rfl
        · exact p.elim
      · split at p
        · rename_i xs hv
          have hx : ∃ a vs, u = .ref a ∧ (SqL c.K H a vs ∨ SqT c.K H a vs) ∧ Paired (RA c w st.length) vs xs := by
            split at hv
            · rename_i hs
              cases hv
              obtain ⟨a, vs, e, q, pr⟩ := viewS_ok rl.rs ry hs
              exact ⟨a, vs, e, .inl q, pr⟩
            · obtain ⟨ds, hs, rfl⟩ := Option.map_eq_some_iff.mp hv
              obtain ⟨a, vs, e, q, pr⟩ := viewT_ok rl.rs ry hs
              exact ⟨a, vs, e, .inr q, ras_d pr⟩
          obtain ⟨a, vs, rfl, q, pr⟩ := hx
          split at p
          · rename_i ds d hf _
            split at p
            · rename_i hd
              obtain ⟨e1, e2⟩ := allFlat_ok pr hf
              obtain ⟨e3, e4⟩ := flat_ok rx hd
              refine .inr (.inr ⟨_, vs, rfl, q, e4, e2, ?_⟩)
              rw [e1, e3]
              exact p.here rl rfl
            · exact p.elim
          · exact p.elim
        · exact p.elim
theorem op_inD (hu : X.A.units + 1 < cLine) : OpR X (compareOp .In) (rInD false) := by
  intro pins s σ H y x iv u Q I ry rx h
  obtain ⟨a, o, rfl, g, q⟩ := h
  obtain rfl : u = Value.ref a := rx
  exact d_in hu I g ry fun s3 I3 => ⟨.bl o.isSome, H, I3, rfl, q⟩
theorem op_notInD (hu : X.A.units + 1 < cLine) : OpR X (compareOp .NotIn) (rInD true) := by
  intro pins s σ H y x iv u Q I ry rx h
  obtain ⟨a, o, rfl, g, q⟩ := h
  obtain rfl : u = Value.ref a := rx
  exact d_notIn hu I g ry fun s3 I3 => ⟨.bl (!o.isSome), H, I3, rfl, q⟩
theorem op_inAll (hr : Room k X.A) (F : Fits X c) : OpR X (compareOp .In) (rInAll c.K false) := by
  rw [← F.K]
  exact OpR.or (show OpR X (compareOp .In) (rInS false) from op_in_str) (OpR.or (op_inD (hu_of hr)) op_in_seq)
theorem op_notInAll (hr : Room k X.A) (F : Fits X c) : OpR X (compareOp .NotIn) (rInAll c.K true) := by
  rw [← F.K]
  exact OpR.or (show OpR X (compareOp .NotIn) (rInS true) from op_notin_str) (OpR.or (op_notInD (hu_of hr)) op_notIn_seq)
theorem e_in (hr : Room k X.A) (ha : PE X a (tM c W fa)) (hb : PE X b (tM c W fb)) (hm : behindInMarks .In b = false := by rfl) (F : Fits X c := by exact ⟨rfl, rfl⟩) : PE X (.Compare a [.In] [b] pos) (tM c W (mBin (gIn false) fa fb)) := e_cmp (op_inAll hr F) (gIn_ok _) ha hb hm
theorem t_in (hr : Room k X.A) (ha : PE X a (tM c W fa)) (hb : PE X b (tM c W fb)) (hm : behindInMarks .In b = false := by rfl) (F : Fits X c := by exact ⟨rfl, rfl⟩) : PT X (.Compare a [.In] [b] pos) (tT c W (mTst (mBin (gIn false) fa fb))) := t_cmp (op_inAll hr F) (gIn_ok _) ha hb hm
theorem e_notin (hr : Room k X.A) (ha : PE X a (tM c W fa)) (hb : PE X b (tM c W fb)) (hm : behindInMarks .NotIn b = false := by rfl) (F : Fits X c := by exact ⟨rfl, rfl⟩) : PE X (.Compare a [.NotIn] [b] pos) (tM c W (mBin (gIn true) fa fb)) := e_cmp (op_notInAll hr F) (gIn_ok _) ha hb hm
theorem t_notin (hr : Room k X.A) (ha : PE X a (tM c W fa)) (hb : PE X b (tM c W fb)) (hm : behindInMarks .NotIn b = false := by rfl) (F : Fits X c := by exact ⟨rfl, rfl⟩) : PT X (.Compare a [.NotIn] [b] pos) (tT c W (mTst (mBin (gIn true) fa fb))) := t_cmp (op_notInAll hr F) (gIn_ok _) ha hb hm
end
/-! slices -/
abbrev MO := Slots → Store → Res (Option Int)
def mNoPart : MO := fun _ st => .ok none st
def mPart (f : ME) : MO := fun σ st => (f σ st).bind fun a st1 => match a with
  | .d (.int i) => .ok (some i) st1
  | _ => .no
def cutA {α : Type} (xs : List α) (lo hi : Option Int) : List α := (xs.drop (HT.sIx xs.length 0 lo)).take (HT.sIx xs.length xs.length hi - HT.sIx xs.length 0 lo)
noncomputable def gSl (k : Bool) (x : A) (lo hi : Option Int) (st : Store) : Res A := match x with
  | .d (.str z) => ifc (z.length ≤ SZ) (.ok (.d (.str (cutS z lo hi))) st) .no
  | x => match viewS st x with
    | some xs => mkL k (cutA xs lo hi) st
    | none => match x with
      | .d (.tup ds) => mkT ((cutA ds lo hi).map .d) st
      | _ => .no
noncomputable def mSl (k : Bool) (f : ME) (l u : MO) : ME := fun σ st => (f σ st).bind fun x st1 => (l σ st1).bind fun lo st2 => (u σ st2).bind fun hi st3 => gSl k x lo hi st3
def tMO (c : Ctx) (W : WX) (f : MO) : TO := fun σ H Q => ∃ w σa st, Rel c w σa st σ H ∧ Post c w st.length σa σ (fun _ _ b b' => b = b') W Q (f σa st)
def rSlAll (K : PySem.W.Frag) : V → Option Int → Option Int → Hp → VK → Prop := fun x lo hi H Q => rSlS x lo hi H Q ∨ (rSlL K x lo hi H Q ∨ rSlA K x lo hi H Q)
section
variable {X : Cx} {c : Ctx} {W : WX} {a b e : Expr} {es : List Expr} {lo hi : Option Expr} {fl fh : MO} {fa fb f : ME} {fs : MA} {p p2 pos : Pos}
theorem o_none : PO X none (tMO c W mNoPart) := ⟨fun pins s σ H Q I ⟨w, σa, st, rl, p⟩ => po_none.run pins s σ H Q I (p.here rl rfl)⟩
theorem o_some (h : PE X e (tM c W f)) : PO X (some e) (tMO c W (mPart f)) := ⟨fun pins s σ H Q I ⟨w, σa, st, rl, p⟩ => (po_some h).run pins s σ H Q I ⟨w, σa, st, rl, p.bind fun v x st1 w1 H1 _ rl1 rx p1 => by
  split at p1
  · exact ⟨_, rx, p1.here rl1 rfl⟩
  · exact p1.elim⟩⟩
theorem paired_cut {α β : Type} {F : α → β → Prop} {l₁ : List α} {l₂ : List β} (h : Paired F l₁ l₂) (lo hi : Option Int) : Paired F (cutA l₁ lo hi) (cutA l₂ lo hi) := by
  unfold cutA
  rw [h.length]
  exact paired_take _ (paired_drop _ h)
theorem cutA_whole {α : Type} {xs : List α} {lo hi : Option Int} (h : HT.sIx xs.length 0 lo = 0 ∧ HT.sIx xs.length xs.length hi = xs.length) : cutA xs lo hi = xs := by
  unfold cutA
  rw [h.1, h.2, List.drop_zero, Nat.sub_zero, List.take_length]
theorem sl_all (F : Fits X c) : SlR X (rSlAll c.K) := by rw [← F.K]; exact SlR.or sl_str (SlR.or sl_list sl_tupA)
theorem gSl_ok {k : Bool} {w : Wd} {σa : Slots} {st : Store} {σ : L2.St} {H : Hp} {x : A} {v : V} {l h : Option Int} {Q : VK} (rl : Rel c w σa st σ H) (rx : RA c w st.length v x) (p : Post c w st.length σa σ (RA c) W Q (gSl k x l h st)) : rSlAll c.K v l h H Q := by
  unfold gSl at p
  simp only [ifc] at p
  split at p
  · split at p
    · rename_i hz
      exact .inl ⟨_, rx, SZ_le hz, p.here rl rfl⟩
    · exact p.elim
  · split at p
    · rename_i hv
      obtain ⟨_, us, rfl, q, pr⟩ := viewS_ok rl.rs rx hv
      exact .inr (.inl ⟨_, us, rfl, q, (mkL_ok rl (paired_cut pr l h) p).2⟩)
    · split at p
      · have rx0 := rx
        obtain ⟨a, us, rfl, q, pr⟩ := rx
        have hl := pr.pair.length
        refine .inr (.inr ⟨_, us, rfl, .of (rl.rs.same _ _ q), fun z => ?_, fun _ => (mkT_ok rl (ras_d (DRs.of (paired_cut pr.pair l h))) p).2⟩)
        rw [hl] at z
        rw [cutA_whole z] at p
        obtain ⟨_, p⟩ := mkT_data p
        exact p.here rl rx0
      · exact p.elim
theorem e_sl (k : Bool) (he : PE X e (tM c W f)) (hl : PO X lo (tMO c W fl)) (hu : PO X hi (tMO c W fh)) (F : Fits X c := by exact ⟨rfl, rfl⟩) : PE X (.Subscript e (.Slice lo hi none p2) pos) (tM c W (mSl k f fl fh)) :=
  pe_imp (pe_slice (sl_all F) he hl hu) fun σ H Q ⟨w, σa, st, rl, p⟩ => ⟨w, σa, st, rl, p.bind fun v x st1 w1 H1 _ rl1 rx p1 => ⟨w1, σa, st1, rl1, p1.bind fun l l' st2 w2 H2 e2 rl2 r2 p2 => ⟨w2, σa, st2, rl2, p2.bind fun u u' st3 w3 H3 e3 rl3 r3 p3 => by
    subst r2 r3
    exact gSl_ok rl3 ((rx.ext e2).ext e3) p3⟩⟩⟩
/-- xs[::-1] -/
noncomputable def gRev (k : Bool) (x : A) (st : Store) : Res A := match viewS st x with
  | some xs => mkL k xs.reverse st
  | none => .no
theorem e_rev (k : Bool) {n : Nat} {p1 p2 p3 pos : Pos} (he : PE X e (tM c W f)) (F : Fits X c := by exact ⟨rfl, rfl⟩) : PE X (.Subscript e (.Slice none none (some (.UnaryOp .USub (.Constant (.int 1) n p1) p2)) p3) pos) (tM c W (mUn (gRev k) f)) :=
  pe_imp (pe_revL he) fun σ H Q ⟨w, σa, st, rl, p⟩ => ⟨w, σa, st, rl, p.bind fun v x st1 w1 H1 _ rl1 rx p1 => by
    unfold gRev at p1
    split at p1
    · rename_i hv
      obtain ⟨_, us, rfl, q, pr⟩ := viewS_ok rl1.rs rx hv
      exact ⟨_, us, rfl, by rw [F.K]; exact q, (mkL_ok rl1 (paired_reverse pr) p1).2⟩
    · exact p1.elim⟩
end
end Am
/-! ### Am: freezing, methods of lists, statements -/
namespace Am
open PySem PySem.Spec PyProof.Rows L2
/-! ### a cell becomes data -/
section
variable {c : Ctx} {w : Wd} {n : Nat} {σa : Slots} {st : Store} {σ : L2.St} {H : Hp} {W : WX}
theorem RelS.freeze (r : RelS c w st H) {i : Nat} {x : Cell} {d : D} {o : HO} (h : st[i]? = some x) (g : w.G (w.E i) = none) (ho : H (w.E i) = some o) (hd : DR c (upd w.G (w.E i) o) d (.ref (w.E i))) : RelS c (w.put (w.E i) o) (st.set i (.fz d)) H where
  same := fun b y e => by
    have e : upd w.G (w.E i) o b = some y := e
    by_cases hb : b = w.E i
    · subst hb; rw [upd_same] at e; rw [← e]; exact ho
    · rw [upd_ne hb] at e; exact r.same b y e
  inj := fun j k hj hk => by
    rw [List.length_set] at hj hk
    exact r.inj j k hj hk
  cell := fun j y hj => by
    rw [List.length_set]
    by_cases e : j = i
    · subst e
      rw [List.getElem?_set_self (RelS.lt h)] at hj
      cases hj
      exact ⟨hd, by show H (w.E j) ≠ none; rw [ho]; exact fun z => nomatch z⟩
    · rw [List.getElem?_set_ne (Ne.symm e)] at hj
      have ne : w.E j ≠ w.E i := fun q => e (r.inj j i (RelS.lt hj) (RelS.lt h) q)
      exact (r.cell j y hj).stay (w.put_ext g) (fun q => by show upd w.G (w.E i) o (w.E j) = none; rw [upd_ne ne]; exact q) rfl
theorem Rel.freeze (r : Rel c w σa st σ H) {i : Nat} {x : Cell} {d : D} {o : HO} (h : st[i]? = some x) (g : w.G (w.E i) = none) (ho : H (w.E i) = some o) (hd : DR c (upd w.G (w.E i) o) d (.ref (w.E i))) : Rel c (w.put (w.E i) o) σa (st.set i (.fz d)) σ H :=
  ⟨r.rs.freeze h g ho hd, r.len, fun j a hj => let ⟨v, e, q⟩ := r.sl j a hj; ⟨v, e, by rw [List.length_set]; exact q.ext (w.put_ext g)⟩⟩
end
/-- a cell's data, if all in it are data -/
def pairsD {κ : Type} : List (κ × A) → Option (List (κ × D))
  | [] => some []
  | (k, .d x) :: r => (pairsD r).map ((k, x) :: ·)
  | (_, .c _) :: _ => none
theorem pairsD_eq {κ : Type} : ∀ {xs : List (κ × A)} {ds : List (κ × D)}, pairsD xs = some ds → xs = ds.map fun p => (p.1, .d p.2)
  | [], _, h => by cases h; rfl
  | (k, .d x) :: r, ds, h => by
    rw [pairsD] at h
    obtain ⟨r', h1, rfl⟩ := Option.map_eq_some_iff.mp h
    rw [pairsD_eq h1]; rfl
  | (_, .c _) :: _, _, h => by cases h
theorem pairsD_map {κ : Type} : ∀ (ds : List (κ × D)), pairsD (ds.map fun p => (p.1, A.d p.2)) = some ds
  | [] => rfl
  | (k, x) :: xs => by rw [List.map_cons, pairsD, pairsD_map xs]; rfl
def cellD : Cell → Option D
  | .lst xs => (allD xs).map .list
  | .dK xs => (pairsD xs).map .dK
  | .dT xs => (pairsD xs).map .dT
  | .ins x fs => (pairsD fs).map (.ins x)
  | .fz x => some x
/-- freeze: the value as data -/
def frz (a : A) (st : Store) : Res A := match a with
  | .d x => .ok (.d x) st
  | .c i => match st[i]? with
    | some (.fz x) => .ok (.d x) st
    | some x => match cellD x with
      | some d => .ok (.d d) (st.set i (.fz d))
      | none => .no
    | none => .no
def mFrz (f : ME) : ME := fun σ st => (f σ st).bind frz
section
variable {c : Ctx} {w : Wd} {n : Nat} {σa : Slots} {st : Store} {σ : L2.St} {H : Hp} {W : WX} {X : Cx} {e : Expr} {f : ME}
theorem kas_of_d {κ : Type} {us : List (κ × V)} {ds : List (κ × D)} (h : Paired (KD (RA c w n)) us (ds.map fun p => (p.1, .d p.2))) : Paired (KD fun v d => DR c w.G d v) us ds :=
  paired_imp (paired_unmap (fun p : κ × D => (p.1, A.d p.2)) h) fun _ _ q => q
/-- a live cell's object as data -/
theorem cell_live (rl : RelS c w st H) {i : Nat} {x : Cell} {d : D} (h : st[i]? = some x) (nf : ∀ y, x ≠ .fz y) (hd : cellD x = some d) : w.G (w.E i) = none ∧ ∃ o, H (w.E i) = some o ∧ DR c (upd w.G (w.E i) o) d (.ref (w.E i)) := by
  have cr := rl.cell i x h
  cases x with
  | lst xs =>
    obtain ⟨ds, h1, rfl⟩ := Option.map_eq_some_iff.mp hd
    obtain ⟨g, vs, e, p⟩ := cr
    rw [allD_eq h1] at p
    exact ⟨g, _, e, _, vs, rfl, upd_same, (ras_of_d p).same (same_upd g)⟩
  | dK xs =>
    obtain ⟨ds, h1, rfl⟩ := Option.map_eq_some_iff.mp hd
    obtain ⟨g, vs, e, p⟩ := cr
    rw [pairsD_eq h1] at p
    exact ⟨g, _, e, _, vs, rfl, .inl upd_same, (DRk.of (kas_of_d p)).same (same_upd g)⟩
  | dT xs =>
    obtain ⟨ds, h1, rfl⟩ := Option.map_eq_some_iff.mp hd
    obtain ⟨g, vs, e, p⟩ := cr
    rw [pairsD_eq h1] at p
    exact ⟨g, _, e, _, vs, rfl, .inl upd_same, (DRt.of (kas_of_d p)).same (same_upd g)⟩
  | ins y fs =>
    obtain ⟨ds, h1, rfl⟩ := Option.map_eq_some_iff.mp hd
    obtain ⟨g, C, dx, us, e, m, p⟩ := cr
    rw [pairsD_eq h1] at p
    exact ⟨g, _, e, _, C, dx, us, rfl, upd_same, m, (DRf.of (kas_of_d p)).same (same_upd g)⟩
  | fz y => exact absurd rfl (nf y)
theorem frz_ok {a : A} {v : V} {Q : VK} (rl : Rel c w σa st σ H) (r : RA c w st.length v a) (p : Post c w st.length σa σ (RA c) W Q (frz a st)) : Q v H := by
  cases a with
  | d x => exact p.here rl r
  | c i =>
    obtain ⟨hi, rfl⟩ := r
    have p : Post c w st.length σa σ (RA c) W Q (match st[i]? with | some (.fz x) => .ok (.d x) st | some x => (match cellD x with | some d => .ok (.d d) (st.set i (.fz d)) | none => .no) | none => .no) := p
    split at p
    · rename_i h
      exact p.here rl (rl.rs.cell _ _ h).1
    · rename_i x nf h
      split at p
      · rename_i d hd
        obtain ⟨g, o, ho, hr⟩ := cell_live rl.rs h (fun y z => nf y (by rw [z])) hd
        refine p _ _ _ ?_ (rl.freeze h g ho hr) hr
        rw [List.length_set]
        exact w.put_ext g
      · exact p.elim
    · exact p.elim
theorem e_frz (h : PE X e (tM c W f)) : PE X e (tM c W (mFrz f)) := pe_imp h fun σ H Q ⟨w, σa, st, rl, p⟩ => ⟨w, σa, st, rl, p.bind fun v x st1 w1 H1 _ rl1 rx p1 => frz_ok rl1 rx p1⟩
end
/-! ### methods of lists -/
abbrev GM := A → List A → Store → Res A
def MtA (c : Ctx) (r : V → List V → Hp → VK → Prop) (g : GM) : Prop := ∀ (w : Wd) (σa : Slots) (st : Store) (σ : L2.St) (H : Hp) (x : A) (v : V) (xs : List A) (vs : List V) (W : WX) (Q : VK),
  Rel c w σa st σ H → RA c w st.length v x → Paired (RA c w st.length) vs xs → Post c w st.length σa σ (RA c) W Q (g x xs st) → r v vs H Q
def mMethL (g : GM) (f : ME) (fs : MA) : ME := fun σ st => (f σ st).bind fun x st1 => match viewS st1 x with
  | some _ => (fs σ st1).bind fun xs st2 => g x xs st2
  | none => .no
noncomputable def gAppend : GM
  | .c i, [y], st => match st[i]? with
    | some (.lst xs) => ifc (xs.length < SZ) (.ok (.d .non) (st.set i (.lst (xs ++ [y])))) .no
    | _ => .no
  | _, _, _ => .no
noncomputable def gExtend : GM
  | .c i, [y], st => match st[i]? with
    | some (.lst xs) => match viewL st y with
      | some ys => ifc (xs.length + ys.length ≤ SZ) (.ok (.d .non) (st.set i (.lst (xs ++ ys)))) .no
      | none => .no
    | _ => .no
  | _, _, _ => .no
noncomputable def gPopAt : GM
  | .c i, [.d (.int j)], st => match st[i]? with
    | some (.lst xs) => match ixN xs.length j with
      | some k => match xs[k]? with
        | some y => ifc (-(2 ^ 63) ≤ j ∧ j < 2 ^ 63) (.ok y (st.set i (.lst (xs.eraseIdx k)))) .no
        | none => .no
      | none => .no
    | _ => .no
  | _, _, _ => .no
def gIndex : GM := fun x ys st => match viewS st x, ys with
  | some xs, [.d d] => match allFlat xs with
    | some ds => if flatD d then match ds.findIdx? (fun z => eqV (dV z) (dV d)) with
        | some j => .ok (.d (.int (j : Nat))) st
        | none => .no
      else .no
    | none => .no
  | _, _ => .no
theorem paired_erase {α β : Type} {F : α → β → Prop} : ∀ {l₁ : List α} {l₂ : List β}, Paired F l₁ l₂ → ∀ k : Nat, Paired F (l₁.eraseIdx k) (l₂.eraseIdx k)
  | _, _, .nil, _ => .nil
  | _, _, .cons _ t, 0 => t
  | _, _, .cons r t, k + 1 => .cons r (paired_erase t k)
section
variable {X : Cx} {c : Ctx} {W : WX} {o e : Expr} {es : List Expr} {f : ME} {fs : MA} {apos cpos : Pos}
theorem entail_mt {r : V → List V → Hp → VK → Prop} {g : GM} (hg : MtA c r g) (σ : L2.St) (H : Hp) (Q : VK) : tM c W (mMethL g f fs) σ H Q → tBM c.K "list" r (tM c W f) (tMA c W fs) σ H Q := fun ⟨w, σa, st, rl, p⟩ =>
  ⟨w, σa, st, rl, p.bind fun v x st1 w1 H1 _ rl1 rx p1 => by
    split at p1
    · rename_i hv
      obtain ⟨a, us, rfl, q, pr⟩ := viewS_ok rl1.rs rx hv
      refine ⟨.inl ⟨rfl, us, q⟩, ⟨w1, σa, st1, rl1, p1.bind fun vs xs st2 w2 H2 e2 rl2 rxs p2 => hg w2 σa st2 σ H2 x _ xs vs W Q rl2 (rx.ext e2) rxs p2⟩⟩
    · exact p1.elim⟩
theorem e_methL {id : String} {name : Str} {r : V → List V → Hp → VK → Prop} {g : GM} (slot : Slot "list" name id) (hty : typeOf (.builtin id) = pure (.type "method_descriptor")) (hm : MtR X id r) (hg : MtA c r g) (ho : PE X o (tM c W f)) (ha : PA X (e :: es) (tMA c W fs)) (F : Fits X c)
    (hbase : attributeBase o name X.env (eval o X.env) = eval o X.env := by rfl)
    (hfew : ((backTo cpos (starEach (e :: es) X.env)).all (fun x => !x.1) && (backToKw cpos (keywordEach [] X.env)).all (fun x => x.1.isSome)
      && decide ((e :: es).length + ([] : List Keyword).length + (if ([] : List Keyword).isEmpty then 0 else 1) < 30)) = true := by rfl)
    (hline : (apos.endLine == cpos.line) = true := by rfl) (hs : starEach (e :: es) X.env = (false, eval e X.env) :: starEach es X.env := by rfl) (hplain : (backTo cpos (starEach es X.env)).any (·.1) = false := by rfl) :
    PE X (.Call (.Attribute o name apos) (e :: es) [] cpos) (tM c W (mMethL g f fs)) :=
  pe_imp (pe_bm PySem.F.plainAttrs_list slot hty hm ho ha hbase hfew hline hs hplain) (by rw [F.K]; exact entail_mt hg)
theorem gAppend_ok : MtA c rAppend gAppend := by
  intro w σa st σ H x v xs vs W Q rl rx rxs p
  unfold gAppend at p
  simp only [ifc] at p
  split at p
  · obtain ⟨u, rfl, ru⟩ := pr1 rxs
    split at p
    · rename_i h
      split at p
      · rename_i hl
        obtain ⟨g, us, e, pr⟩ := rl.rs.cell _ _ h
        refine ⟨_, us, u, rx.2, rfl, e, by rw [pr.length]; exact Nat.lt_of_lt_of_le hl (by decide), p _ _ _ (by rw [List.length_set]; exact Ext.refl _ _) (rl.write h g ⟨g, _, upd_same, paired_append pr (.cons ru .nil)⟩) rfl⟩
      · exact p.elim
    · exact p.elim
  · exact p.elim
theorem gExtend_ok : MtA c rExtend gExtend := by
  intro w σa st σ H x v xs vs W Q rl rx rxs p
  unfold gExtend at p
  simp only [ifc] at p
  split at p
  · obtain ⟨u, rfl, ru⟩ := pr1 rxs
    split at p
    · rename_i h
      split at p
      · rename_i hv
        split at p
        · rename_i hl
          obtain ⟨g, us, e, pr⟩ := rl.rs.cell _ _ h
          obtain ⟨b, zs, rfl, eb, prz⟩ := viewL_ok rl.rs ru hv
          refine ⟨_, b, us, zs, rx.2, rfl, e, eb, by rw [pr.length, prz.length]; exact SZ_le hl, p _ _ _ (by rw [List.length_set]; exact Ext.refl _ _) (rl.write h g ⟨g, _, upd_same, paired_append pr prz⟩) rfl⟩
        · exact p.elim
      · exact p.elim
    · exact p.elim
  · exact p.elim
theorem gPopAt_ok : MtA c rPopAt gPopAt := by
  intro w σa st σ H x v xs vs W Q rl rx rxs p
  unfold gPopAt at p
  simp only [ifc] at p
  split at p
  · obtain ⟨u, rfl, ru⟩ := pr1 rxs
    cases ru
    split at p
    · rename_i h
      obtain ⟨g, us, e, pr⟩ := rl.rs.cell _ _ h
      split at p
      · rename_i hk
        split at p
        · rename_i hy
          split at p
          · rename_i hj
            obtain ⟨z, hz, rz⟩ := paired_get pr hy
            refine ⟨_, us, _, _, z, rx.2, rfl, e, hj.1, hj.2, by rw [pr.length]; exact (ixN_seq hk).1, hz, p _ _ _ (by rw [List.length_set]; exact Ext.refl _ _) (rl.write h g ⟨g, _, upd_same, paired_erase pr _⟩) (by rw [List.length_set]; exact rz)⟩
          · exact p.elim
        · exact p.elim
      · exact p.elim
    · exact p.elim
  · exact p.elim
theorem gIndex_ok : MtA c (rIndex c.K) gIndex := by
  intro w σa st σ H x v xs vs W Q rl rx rxs p
  unfold gIndex at p
  split at p
  · rename_i hv
    obtain ⟨u, rfl, ru⟩ := pr1 rxs
    obtain ⟨a, us, rfl, q, pr⟩ := viewS_ok rl.rs rx hv
    split at p
    · rename_i ds hf
      split at p
      · rename_i hd
        split at p
        · rename_i j hj
          obtain ⟨e1, e2⟩ := allFlat_ok pr hf
          obtain ⟨e3, e4⟩ := flat_ok ru hd
          obtain ⟨hl, h1, h2⟩ := List.findIdx?_eq_some_iff_getElem.mp hj
          refine ⟨a, us, u, j, dV ds[j], rfl, rfl, q, e4, e2, by rw [e1, List.getElem?_map, List.getElem?_eq_getElem hl]; rfl, by rw [e3]; exact h1, fun m z hm hz => ?_, p.here rl rfl⟩
          rw [e1, List.getElem?_map, List.getElem?_eq_getElem (Nat.lt_trans hm hl)] at hz
          cases hz
          rw [e3]
          have := h2 m hm
          simpa using this
        · exact p.elim
      · exact p.elim
    · exact p.elim
  · exact p.elim
end
end Am
/-! ### Am: statements, loops -/
namespace Am
open PySem PySem.Spec PyProof.Rows L2
def PostO (c : Ctx) (w : Wd) (n : Nat) (W : WX) (D : Ends) : Out → Prop
  | .nx σa st => ∀ σ w' H', Ext w n w' st.length → Rel c w' σa st σ H' → D.nx σ H'
  | .bk σa st => ∀ σ w' H', Ext w n w' st.length → Rel c w' σa st σ H' → D.bk σ H'
  | .ct σa st => ∀ σ w' H', Ext w n w' st.length → Rel c w' σa st σ H' → D.ct σ H'
  | .rt a st => ∀ v w' H', Ext w n w' st.length → RelS c w' st H' → RA c w' st.length v a → D.rt v H'
  | .ex x σa st => ∀ σ cls d w' H', Ext w n w' st.length → Rel c w' σa st σ H' → RX c w' x cls d → W cls d σ H'
  | .no => False
def tMS (c : Ctx) (W : WX) (m : MS) : TS := fun D σ H => ∃ w σa st, Rel c w σa st σ H ∧ PostO c w st.length W D (m σa st)
theorem PostO.mono {c : Ctx} {w w1 : Wd} {n n1 : Nat} {W : WX} {D : Ends} (e : Ext w n w1 n1) : ∀ {o : Out}, PostO c w n W D o → PostO c w1 n1 W D o
  | .nx _ _, h => fun σ w' H' e' => h σ w' H' (e.trans e')
  | .bk _ _, h => fun σ w' H' e' => h σ w' H' (e.trans e')
  | .ct _ _, h => fun σ w' H' e' => h σ w' H' (e.trans e')
  | .rt _ _, h => fun v w' H' e' => h v w' H' (e.trans e')
  | .ex _ _ _, h => fun σ v d w' H' e' => h σ v d w' H' (e.trans e')
  | .no, h => h
/-- an expression, then a statement's rest -/
def lift {α : Type} (r : Res α) (σ : Slots) (k : α → Store → Out) : Out := match r with
  | .ok a st => k a st
  | .ex x st => .ex x σ st
  | .no => .no
theorem PostO.lift {α β : Type} {c : Ctx} {w : Wd} {n : Nat} {W : WX} {D : Ends} {σa : Slots} {σ : L2.St} {R : Wd → Nat → β → α → Prop} {Q : β → Hp → Prop} {k : α → Store → Out} :
    ∀ {r : Res α}, PostO c w n W D (lift r σa k) → (∀ v a st1 w1 H1, Ext w n w1 st1.length → Rel c w1 σa st1 σ H1 → R w1 st1.length v a → PostO c w1 st1.length W D (k a st1) → Q v H1) → Post c w n σa σ R W Q r
  | .ok a st, h, f => fun v w1 H1 e1 r1 ra => f v a st w1 H1 e1 r1 ra (PostO.mono e1 h)
  | .ex _ _, h, _ => fun cls d w' H' e r rx => h σ cls d w' H' e r rx
  | .no, h, _ => h
section
variable {c : Ctx} {w : Wd} {W : WX} {D : Ends} {σa : Slots} {st : Store} {σ : L2.St} {H : Hp}
theorem PostO.nxt (h : PostO c w st.length W D (.nx σa st)) (r : Rel c w σa st σ H) : D.nx σ H := h σ w H (Ext.refl _ _) r
theorem PostO.brk (h : PostO c w st.length W D (.bk σa st)) (r : Rel c w σa st σ H) : D.bk σ H := h σ w H (Ext.refl _ _) r
theorem PostO.cnt (h : PostO c w st.length W D (.ct σa st)) (r : Rel c w σa st σ H) : D.ct σ H := h σ w H (Ext.refl _ _) r
theorem PostO.ret {a : A} {v : V} (h : PostO c w st.length W D (.rt a st)) (r : RelS c w st H) (ra : RA c w st.length v a) : D.rt v H := h v w H (Ext.refl _ _) r ra
end
/-! targets -/
abbrev MG := A → Slots → Store → Option (Slots × Store)
def PostG (c : Ctx) (w : Wd) (n : Nat) (Q : L2.St → Hp → Prop) : Option (Slots × Store) → Prop
  | some (σa, st) => ∀ σ w' H', Ext w n w' st.length → Rel c w' σa st σ H' → Q σ H'
  | none => False
def tMG (c : Ctx) (g : MG) : TG := fun v σ H Q => ∃ w σa st a, Rel c w σa st σ H ∧ RA c w st.length v a ∧ PostG c w st.length Q (g a σa st)
abbrev MGs := List A → Slots → Store → Option (Slots × Store)
def tMGs (c : Ctx) (g : MGs) : TGs := fun vs σ H Q => ∃ w σa st as, Rel c w σa st σ H ∧ Paired (RA c w st.length) vs as ∧ PostG c w st.length Q (g as σa st)
def kName (i : Nat) : MG := fun a σ st => some (σ.set i (some a), st)
def kNil : MGs := fun as σ st => match as with
  | [] => some (σ, st)
  | _ => none
def kCons (g : MG) (gs : MGs) : MGs := fun as σ st => match as with
  | a :: r => match g a σ st with
    | some (σ1, st1) => gs r σ1 st1
    | none => none
  | [] => none
def kTup (gs : MGs) (n : Nat) : MG := fun a σ st => match viewT a with
  | some ds => if ds.length = n then gs (ds.map .d) σ st else none
  | none => none
/-- o[i] = v by values -/
noncomputable def gSet : A → A → A → Store → Option Store := fun o i v st => match o, i with
  | .c k, i => match st[k]? with
    | some (.lst xs) => match i with
      | .d (.int j) => match ixN xs.length j with
        | some n => some (st.set k (.lst (xs.set n v)))
        | none => none
      | _ => none
    | some (.dK xs) => match keyA i with
      | some y => ifc (xs.length < SZ) (some (st.set k (.dK (putA xs y v)))) none
      | none => none
    | some (.dT xs) => match keysT i with
      | some y => ifc (xs.length < SZ) (some (st.set k (.dT (putA xs y v)))) none
      | none => none
    | _ => none
  | _, _ => none
noncomputable def kSub (fo fi : ME) : MG := fun a σ st => match fo σ st with
  | .ok o st1 => match fi σ st1 with
    | .ok i st2 => match gSet o i a st2 with
      | some st3 => some (σ, st3)
      | none => none
    | _ => none
  | _ => none
def mSkip : MS := fun σ st => .nx σ st
def mBrk : MS := fun σ st => .bk σ st
def mCnt : MS := fun σ st => .ct σ st
def mSeq (m k : MS) : MS := fun σ st => match m σ st with
  | .nx σ1 st1 => k σ1 st1
  | o => o
def mDo (f : ME) : MS := fun σ st => lift (f σ st) σ fun _ st1 => .nx σ st1
def mRet (f : ME) : MS := fun σ st => lift (f σ st) σ fun a st1 => .rt a st1
def mRetN : MS := fun _ st => .rt (.d .non) st
def mIf (t : MT) (m k : MS) : MS := fun σ st => lift (t σ st) σ fun b st1 => if b then m σ st1 else k σ st1
def mAsg (f : ME) (g : MG) : MS := fun σ st => lift (f σ st) σ fun a st1 => match g a σ st1 with
  | some (σ2, st2) => .nx σ2 st2
  | none => .no
def mSet (i : Nat) (f : ME) : MS := fun σ st => lift (f σ st) σ fun a st1 => .nx (σ.set i (some a)) st1
/-- a, b = x, y -/
def mPar (i j : Nat) (fs : MA) : MS := fun σ st => lift (fs σ st) σ fun as st1 => match as with
  | [a, b] => .nx ((σ.set i (some a)).set j (some b)) st1
  | _ => .no
/-- x op= e -/
def mAug (i : Nat) (g : A → A → Store → Res A) (f : ME) : MS := fun σ st => match σ[i]? with
  | some (some x) => lift (f σ st) σ fun y st1 => lift (g x y st1) σ fun z st2 => .nx (σ.set i (some z)) st2
  | _ => .no
def gIxM : A → A → Store → Res A := fun x y st => match viewS st x with
  | some xs => match y with
    | .d (.int i) => match atI xs i with
      | some a => .ok a st
      | none => .no
    | _ => .no
  | none => match viewK st x with
    | some kvs => match keyA y with
      | some k => match lookK kvs k with
        | some a => .ok a st
        | none => .no
      | none => .no
    | none => .no
def rIxM (K : PySem.W.Frag) : R2 := fun x y H Q => rIxL K x y H Q ∨ rIxD x y H Q
theorem gIxM_ok {c : Ctx} : OpA c (rIxM c.K) gIxM := by
  intro w σa st σ H x y v u W Q rl rx ry p
  unfold gIxM at p
  split at p
  · rename_i hv
    obtain ⟨_, us, rfl, q, pr⟩ := viewS_ok rl.rs rx hv
    split at p
    · split at p
      · rename_i ha
        obtain ⟨z, e, r⟩ := paired_at pr ha
        exact .inl ⟨_, us, _, z, rfl, ry, q, e, p.here rl r⟩
      · exact p.elim
    · exact p.elim
  · split at p
    · rename_i hv
      obtain ⟨_, us, rfl, q, pr⟩ := viewK_ok rl.rs rx hv
      split at p
      · rename_i hk
        split at p
        · rename_i ha
          obtain ⟨z, e, r⟩ := (lookK_ok pr).2 _ ha
          have := keyA_ok ry hk
          subst this
          exact .inr ⟨_, z, rfl, by rw [← e]; exact dget_k q, p.here rl r⟩
        · exact p.elim
      · exact p.elim
    · exact p.elim
noncomputable def mAugS (g : A → A → Store → Res A) (fo fi f : ME) : MS := fun σ st => lift (fo σ st) σ fun o st1 => lift (fi σ st1) σ fun i st2 => lift (gIxM o i st2) σ fun x st3 => lift (f σ st3) σ fun y st4 => lift (g x y st4) σ fun z st5 => match gSet o i z st5 with
  | some st6 => .nx σ st6
  | none => .no
section
variable {X : Cx} {c : Ctx} {W : WX} {e a b o i tg : Expr} {es : List Expr} {s : Stmt} {ss : List Stmt} {f fo fi : ME} {t : MT} {m k : MS} {g : MG} {gs : MGs} {fs : MA} {pos pos' : Pos} {n : Nat}
theorem s_nil : PSs X [] (tMS c W mSkip) := pss_imp pss_nil fun _ _ _ ⟨_, _, _, rl, p⟩ => p.nxt rl
theorem s_pass : PS X (.Pass pos) (tMS c W mSkip) := ps_imp ps_pass fun _ _ _ ⟨_, _, _, rl, p⟩ => p.nxt rl
theorem s_brk : PS X (.Break pos) (tMS c W mBrk) := ps_imp ps_break fun _ _ _ ⟨_, _, _, rl, p⟩ => p.brk rl
theorem s_cnt : PS X (.Continue pos) (tMS c W mCnt) := ps_imp ps_continue fun _ _ _ ⟨_, _, _, rl, p⟩ => p.cnt rl
theorem s_doc {x j} : PS X (.Expr (.Constant (.str x) j pos) pos') (tMS c W mSkip) := ps_imp ps_doc fun _ _ _ ⟨_, _, _, rl, p⟩ => p.nxt rl
theorem s_one (h : PS X s (tMS c W m)) : PSs X [s] (tMS c W m) := pss_one h
theorem s_cons (h : PS X s (tMS c W m)) (h2 : PSs X ss (tMS c W k)) : PSs X (s :: ss) (tMS c W (mSeq m k)) := pss_imp (pss_cons h h2) fun D σ H ⟨w, σa, st, rl, p⟩ => by
  refine ⟨w, σa, st, rl, ?_⟩
  unfold mSeq at p
  split at p
  · rename_i h
    rw [h]
    exact fun σ' w' H' e r => ⟨w', _, _, r, PostO.mono e p⟩
  · rename_i h
    cases ho : m σa st with
    | nx σ1 st1 => exact absurd ho (h σ1 st1)
    | _ => rw [ho] at p; exact p
theorem s_do (h : PE X e (tM c W f)) (hs : swapsWith e none pos.line X.env = pure false := by rfl) : PS X (.Expr e pos) (tMS c W (mDo f)) := ps_imp (ps_expr h hs) fun D σ H ⟨w, σa, st, rl, p⟩ =>
  ⟨w, σa, st, rl, PostO.lift p fun _ _ _ _ _ _ rl1 _ p1 => p1.nxt rl1⟩
theorem s_ret (h : PE X e (tM c W f)) : PS X (.Return (some e) pos) (tMS c W (mRet f)) := ps_imp (ps_ret h) fun D σ H ⟨w, σa, st, rl, p⟩ =>
  ⟨w, σa, st, rl, PostO.lift p fun _ _ _ _ _ _ rl1 r p1 => p1.ret rl1.rs r⟩
theorem s_retN : PS X (.Return none pos) (tMS c W mRetN) := ps_imp ps_retN fun D σ H ⟨w, σa, st, rl, p⟩ => PostO.ret (a := .d .non) p rl.rs rfl
theorem s_if {q r : List Stmt} (h : PT X e (tT c W t)) (h1 : PSs X q (tMS c W m)) (h2 : PSs X r (tMS c W k)) : PS X (.If e q r pos) (tMS c W (mIf t m k)) := ps_imp (ps_if h h1 h2) fun D σ H ⟨w, σa, st, rl, p⟩ =>
  ⟨w, σa, st, rl, PostO.lift p fun b b' _ _ _ _ rl1 r p1 => by
    subst r
    cases b with
    | true => exact iteT ⟨_, _, _, rl1, p1⟩
    | false => exact iteF ⟨_, _, _, rl1, p1⟩⟩
theorem s_set {j : Nat} {x : Str} (hN : X.N.Nodup) (hi : X.N[j]? = some x) (hx : Loc X.env.scope x) (h : PE X e (tM c W f)) (hs : swapsWith e (some (.Name x pos')) pos.line X.env = pure false := by rfl) (hf : X.fn x = true ∨ X.env.scope.names.lookup x = some .local := by first | exact .inl rfl | exact .inr rfl | assumption) :
    PS X (.Assign [.Name x pos'] e pos) (tMS c W (mSet j f)) := ps_imp (ps_set hN hi hx h hs hf) fun D σ H ⟨w, σa, st, rl, p⟩ => ⟨w, σa, st, rl, PostO.lift p fun _ _ _ _ _ _ rl1 r p1 => p1.nxt (rl1.set r)⟩
theorem g_name {j : Nat} {x : Str} (hN : X.N.Nodup) (hi : X.N[j]? = some x) (hx : Loc X.env.scope x) (hf : X.fn x = true ∨ X.env.scope.names.lookup x = some .local := by first | exact .inl rfl | exact .inr rfl | assumption) : PG X (.Name x pos) (tMG c (kName j)) :=
  ⟨fun pins s σ H v u Q I r ⟨w, σa, st, a, rl, ra, p⟩ => (pg_name hN hi hx hf).run pins s σ H v u Q I r (p _ w H (Ext.refl _ _) (rl.set ra))⟩
theorem gs_nil : PGs X [] (tMGs c kNil) := ⟨fun pins s σ H vs us Q I r ⟨w, σa, st, as, rl, ra, p⟩ => pgs_nil.run pins s σ H vs us Q I r (by
  unfold kNil at p
  split at p
  · cases ra; exact ⟨rfl, p _ w H (Ext.refl _ _) rl⟩
  · exact p.elim)⟩
theorem gs_cons (h1 : PG X e (tMG c g)) (h2 : PGs X es (tMGs c gs)) (hs : (assignEach (e :: es) X.env).map (·.2) = assign e X.env :: (assignEach es X.env).map (·.2) := by rfl) : PGs X (e :: es) (tMGs c (kCons g gs)) :=
  ⟨fun pins s σ H vs us Q I r ⟨w, σa, st, as, rl, ra, p⟩ => (pgs_cons h1 h2 hs).run pins s σ H vs us Q I r (by
    unfold kCons at p
    split at p
    · cases ra with
      | cons r1 rr =>
        refine ⟨_, _, rfl, w, σa, st, _, rl, r1, ?_⟩
        split at p
        · rename_i hg
          rw [hg]
          exact fun σ' w' H' e r' => ⟨w', _, _, _, r', ras_ext e rr, by
            revert p
            generalize gs _ _ _ = y
            intro p
            cases y with
            | none => exact p
            | some y => exact fun σ2 w2 H2 e2 => p σ2 w2 H2 (e.trans e2)⟩
        · exact p.elim
    · exact p.elim)⟩
theorem g_tup {kk nn : Nat} (hc : X.calm = true) (h : PGs X es (tMGs c gs)) (F : Fits X c := by exact ⟨rfl, rfl⟩) (hn : (assignEach es X.env).length = nn := by rfl) (hst : (assignEach es X.env).findIdx? (·.1) = none := by rfl) : PG X (.Tuple es kk pos) (tMG c (kTup gs nn)) :=
  ⟨fun pins s σ H v u Q I r ⟨w, σa, st, a, rl, ra, p⟩ => (pg_tup hc h hn hst).run pins s σ H v u Q I r (by
    unfold kTup at p
    split at p
    · rename_i hv
      obtain ⟨b, vs, rfl, q, pr⟩ := viewT_ok rl.rs ra hv
      split at p
      · rename_i hl
        exact ⟨b, vs, rfl, by rw [F.K]; exact q, by rw [pr.pair.length]; exact hl, w, σa, st, _, rl, ras_d pr, p⟩
      · exact p.elim
    · exact p.elim)⟩
def rSetD : V → V → V → Hp → (Hp → Prop) → Prop := fun o i v H Q => ∃ a H', o = .ref a ∧ DPut H a i v H' ∧ Q H'
def rSetAll : V → V → V → Hp → (Hp → Prop) → Prop := fun o i v H Q => rSetL o i v H Q ∨ rSetD o i v H Q
theorem set_all (hr : Room n X.A) : PSet X rSetAll := by
  intro pins s σ H o i v ov iv u Q I ro ri rv h
  rcases h with h | ⟨a, H', rfl, g, q⟩
  · exact set_list pins s σ H o i v ov iv u Q I ro ri rv h
  · obtain rfl : ov = Value.ref a := ro
    exact d_setItem (hu_of hr) I g ri rv fun s4 I4 => ⟨H', I4, q⟩
theorem gSet_ok {w : Wd} {σa : Slots} {st st' : Store} {σ : L2.St} {H : Hp} {o i a : A} {vo vi v : V} {Q : Hp → Prop} (rl : Rel c w σa st σ H) (ro : RA c w st.length vo o) (ri : RA c w st.length vi i) (ra : RA c w st.length v a) (h : gSet o i a st = some st')
    (q : ∀ H', Ext w st.length w st'.length → Rel c w σa st' σ H' → Q H') : rSetAll vo vi v H Q := by
  unfold gSet at h
  simp only [ifc] at h
  split at h
  · split at h
    · rename_i hk
      obtain ⟨g, us, e, pr⟩ := rl.rs.cell _ _ hk
      split at h
      · split at h
        · rename_i hx
          cases h
          exact .inl ⟨_, us, _, _, ro.2, ri, e, by rw [pr.length]; exact hx, q _ (by rw [List.length_set]; exact Ext.refl _ _) (rl.write hk g ⟨g, _, upd_same, paired_set ra _ pr⟩)⟩
        · cases h
      · cases h
    · rename_i hk
      obtain ⟨g, us, e, pr⟩ := rl.rs.cell _ _ hk
      split at h
      · rename_i hy
        split at h
        · rename_i hl
          cases h
          have := keyA_ok ri hy
          subst this
          exact .inr ⟨_, _, ro.2, .k e (by rw [pr.length]; exact Nat.lt_of_lt_of_le hl (by decide)), q _ (by rw [List.length_set]; exact Ext.refl _ _) (rl.write hk g ⟨g, _, upd_same, putA_ok ra pr⟩)⟩
        · cases h
      · cases h
    · rename_i hk
      obtain ⟨g, us, e, pr⟩ := rl.rs.cell _ _ hk
      split at h
      · rename_i hy
        split at h
        · rename_i hl
          cases h
          obtain ⟨b, rfl, eb⟩ := keysT_ok rl.rs.same ri hy
          exact .inr ⟨_, _, ro.2, .t e eb (by rw [pr.length]; exact Nat.lt_of_lt_of_le hl (by decide)), q _ (by rw [List.length_set]; exact Ext.refl _ _) (rl.write hk g ⟨g, _, upd_same, putA_ok ra pr⟩)⟩
        · cases h
      · cases h
    · cases h
  · cases h
theorem g_sub (hr : Room n X.A) (ho : PE X o (tM c W fo)) (hi : PE X i (tM c W fi))
    (ha : ∀ v, assign (.Subscript o i pos) X.env v = (do
      let ov ← holding [v] (eval o X.env)
      let iv ← holding [v, ov] (eval i X.env)
      standAt pos
      holding [v, ov, iv] (setItem ov iv v)
      release [v, ov, iv] []) := by intro _; rfl) : PG X (.Subscript o i pos) (tMG c (kSub fo fi)) :=
  ⟨fun pins s σ H v u Q I r ⟨w, σa, st, a, rl, ra, p⟩ => (pg_sub ho hi (set_all hr) ha).run pins s σ H v u Q I r (by
    unfold kSub at p
    cases h1 : fo σa st with
    | no => rw [h1] at p; exact p.elim
    | ex _ _ => rw [h1] at p; exact p.elim
    | ok y st1 =>
      rw [h1] at p
      refine ⟨w, σa, st, rl, ?_⟩
      rw [h1]
      intro vo w1 H1 e1 rl1 r1
      have p : PostG c w st.length Q (match fi σa st1 with | .ok i st2 => (match gSet y i a st2 with | some st3 => some (σa, st3) | none => none) | _ => none) := p
      cases h2 : fi σa st1 with
      | no => rw [h2] at p; exact p.elim
      | ex _ _ => rw [h2] at p; exact p.elim
      | ok j st2 =>
        rw [h2] at p
        refine ⟨w1, σa, st1, rl1, ?_⟩
        rw [h2]
        intro vi w2 H2 e2 rl2 r2
        have p : PostG c w st.length Q (match gSet y j a st2 with | some st3 => some (σa, st3) | none => none) := p
        cases h3 : gSet y j a st2 with
        | none => rw [h3] at p; exact p.elim
        | some st3 =>
          rw [h3] at p
          exact gSet_ok rl2 (r1.ext e2) r2 ((ra.ext e1).ext e2) h3 fun H3 e3 rl3 => p _ w2 H3 ((e1.trans e2).trans e3) rl3)⟩
theorem s_asg (h : PE X e (tM c W f)) (hg : PG X tg (tMG c g)) (hs : swapsWithSole [tg] e pos.line X.env = pure false := by rfl) (hw : swappedStores [tg] e X.env = pure none := by rfl)
    (h1 : (assignEach [tg] X.env).map (·.2) = [assign tg X.env] := by rfl) : PS X (.Assign [tg] e pos) (tMS c W (mAsg f g)) := ps_imp (ps_asg h hg hs hw h1) fun D σ H ⟨w, σa, st, rl, p⟩ =>
  ⟨w, σa, st, rl, PostO.lift p fun v a st1 w1 H1 _ rl1 r p1 => ⟨w1, σa, st1, a, rl1, r, by
    split at p1
    · rename_i hg
      rw [hg]
      exact p1
    · exact p1.elim⟩⟩
theorem s_par {i j : Nat} {x y : Str} {px py pt : Pos} {kt k2 pt2} (hc : X.calm = true) (hN : X.N.Nodup) (hi : X.N[i]? = some x) (hj : X.N[j]? = some y) (hij : i ≠ j)
    (hx : X.env.scope.names.lookup x = some .local) (hy : X.env.scope.names.lookup y = some .local) (ha : PA X [a, b] (tMA c W fs))
    (hw : swappedStores [.Tuple [.Name x px, .Name y py] kt pt] (.Tuple [a, b] k2 pt2) X.env = pure (some [x, y]) := by rfl)
    (hs : swapsWithSole [.Tuple [.Name x px, .Name y py] kt pt] (.Tuple [a, b] k2 pt2) pos.line X.env = pure false := by rfl) :
    PS X (.Assign [.Tuple [.Name x px, .Name y py] kt pt] (.Tuple [a, b] k2 pt2) pos) (tMS c W (mPar i j fs)) := ps_imp (ps_par hc hN hi hj hij hx hy ha hw hs) fun D σ H ⟨w, σa, st, rl, p⟩ =>
  ⟨w, σa, st, rl, PostO.lift p fun vs as st1 w1 H1 _ rl1 r p1 => by
    split at p1
    · obtain ⟨u, v, rfl, ru, rv⟩ := pr2 r
      exact ⟨u, v, rfl, p1.nxt ((rl1.set ru).set rv)⟩
    · exact p1.elim⟩
theorem s_aug {j : Nat} {x : Str} {op : Operator} {r : R2} {gg : A → A → Store → Res A} (hN : X.N.Nodup) (hi : X.N[j]? = some x) (hx : Loc X.env.scope x) (h : PE X e (tM c W f)) (ho : PIp X op r) (hg : OpA c r gg) (hf : X.fn x = true ∨ X.env.scope.names.lookup x = some .local := by first | exact .inl rfl | exact .inr rfl | assumption) :
    PS X (.AugAssign (.Name x pos') op e pos) (tMS c W (mAug j gg f)) := ps_imp (ps_aug hN hi hx h ho hf) fun D σ H ⟨w, σa, st, rl, p⟩ => by
  unfold mAug at p
  split at p
  · rename_i a hj
    obtain ⟨v, e1, ra⟩ := rl.sl j a hj
    refine ⟨v, e1, w, σa, st, rl, PostO.lift p fun u y st1 w1 H1 e1 rl1 ry p1 => ?_⟩
    exact hg w1 σa st1 σ H1 a y v u W _ rl1 (ra.ext e1) ry (PostO.lift p1 fun z z' st2 w2 H2 _ rl2 rz p2 => p2.nxt (rl2.set rz))
  · exact p.elim
theorem get_ixM (hr : Room n X.A) (F : Fits X c) : PGet X (rIxM c.K) := by
  rw [← F.K]
  intro pins s σ H o i ov iv Q I ro ri h
  rcases h with h | ⟨a, v, rfl, g, q⟩
  · exact Rw.get_list pins s σ H o i ov iv Q I ro ri h
  · obtain rfl : ov = Value.ref a := ro
    exact d_getItem (hu_of hr) I g ri fun w' s4 I4 r4 => ⟨v, H, I4, r4, q⟩
theorem s_augS {op : Operator} {r : R2} {gg : A → A → Store → Res A} {tpos : Pos} (hr : Room n X.A) (ho : PE X o (tM c W fo)) (hi : PE X i (tM c W fi)) (h : PE X e (tM c W f)) (hp : PIp X op r) (hg : OpA c r gg) (F : Fits X c)
    (ha : ∀ ov iv new, augStore i ov iv new = (do holding [new, ov, iv] (setItem ov iv new); release [new, ov, iv] []; pure .next) := by intros; rfl) (get : PGet X (rIxM c.K) := by exact get_ixM (by assumption) ⟨rfl, rfl⟩) : PS X (.AugAssign (.Subscript o i tpos) op e pos) (tMS c W (mAugS gg fo fi f)) :=
  ps_imp (ps_augS ho hi get h hp (set_all hr) ha) fun D σ H ⟨w, σa, st, rl, p⟩ => ⟨w, σa, st, rl, PostO.lift p fun vo yo st1 w1 H1 e1 rl1 ro p1 => ⟨w1, σa, st1, rl1, PostO.lift p1 fun vi yi st2 w2 H2 e2 rl2 ri p2 =>
    gIxM_ok w2 σa st2 σ H2 yo yi vo vi W _ rl2 (ro.ext e2) ri (PostO.lift p2 fun vx x st3 w3 H3 e3 rl3 rx p3 => ⟨w3, σa, st3, rl3, PostO.lift p3 fun vy y st4 w4 H4 e4 rl4 ry p4 =>
      hg w4 σa st4 σ H4 x y vx vy W _ rl4 (rx.ext e4) ry (PostO.lift p4 fun vz z st5 w5 H5 e5 rl5 rz p5 => by
        split at p5
        · rename_i st6 hs
          have ex := (e3.trans e4).trans e5
          exact gSet_ok rl5 ((ro.ext e2).ext ex) (ri.ext ex) rz hs fun H6 e6 rl6 => p5 _ w5 H6 e6 rl6
        · exact p5.elim)⟩)⟩⟩
end
end Am
/-! ### Am: loops, comprehensions -/
namespace Am
open PySem PySem.Spec PyProof.Rows L2
open Classical in
noncomputable def needO (p : Prop) (o : Out) : Out := if p then o else .no
theorem needO_pos {p : Prop} {o : Out} (h : p) : needO p o = o := if_pos h
theorem PostO.need {c : Ctx} {w : Wd} {n : Nat} {W : WX} {D : Ends} {p : Prop} {o : Out} (h : PostO c w n W D (needO p o)) : p ∧ PostO c w n W D o := by
  unfold needO at h
  by_cases q : p
  · rw [if_pos q] at h; exact ⟨q, h⟩
  · rw [if_neg q] at h; exact h.elim
/-! ### cells that are forgotten -/
def ABelow (n : Nat) : A → Prop
  | .d _ => True
  | .c i => i < n
def CBelow (n : Nat) : Cell → Prop
  | .lst xs => ∀ a ∈ xs, ABelow n a
  | .dK xs => ∀ p ∈ xs, ABelow n p.2
  | .dT xs => ∀ p ∈ xs, ABelow n p.2
  | .ins _ xs => ∀ p ∈ xs, ABelow n p.2
  | .fz _ => True
/-- the cells from st.length on may be forgotten -/
def Trunc (st st2 : Store) : Prop := st.length ≤ st2.length ∧ ∀ i, i < st.length → st2[i]? = st[i]? ∨ ∃ x, st2[i]? = some x ∧ CBelow st.length x
def keepA (n : Nat) : Option A → Option A
  | some (.c i) => if i < n then some (.c i) else none
  | x => x
section
variable {c : Ctx} {w w2 : Wd} {n n2 : Nat} {σa : Slots} {st st2 : Store} {σ : L2.St} {H H2 : Hp} {W : WX}
theorem RA.cut {v : V} : ∀ {a : A}, RA c w n2 v a → ABelow n a → RA c w n v a
  | .d _, h, _ => h
  | .c _, ⟨_, e⟩, h => ⟨h, e⟩
theorem ras_cut {vs : List V} {as : List A} (h : Paired (RA c w n2) vs as) : (∀ a ∈ as, ABelow n a) → Paired (RA c w n) vs as := by
  induction h with
  | nil => exact fun _ => .nil
  | @cons v a vs as r _ ih => exact fun b => .cons (r.cut (b a List.mem_cons_self)) (ih fun x hx => b x (List.mem_cons_of_mem _ hx))
theorem kas_cut {κ : Type} {vs : List (κ × V)} {as : List (κ × A)} (h : Paired (KD (RA c w n2)) vs as) : (∀ p ∈ as, ABelow n p.2) → Paired (KD (RA c w n)) vs as := by
  induction h with
  | nil => exact fun _ => .nil
  | @cons v a vs as r _ ih => exact fun b => .cons ⟨r.1, r.2.cut (b a List.mem_cons_self)⟩ (ih fun x hx => b x (List.mem_cons_of_mem _ hx))
theorem CR.cut {a : Addr} : ∀ {x : Cell}, CR c w n2 H a x → CBelow n x → CR c w n H a x
  | .lst _, ⟨g, vs, h, p⟩, b => ⟨g, vs, h, ras_cut p b⟩
  | .dK _, ⟨g, vs, h, p⟩, b => ⟨g, vs, h, kas_cut p b⟩
  | .dT _, ⟨g, vs, h, p⟩, b => ⟨g, vs, h, kas_cut p b⟩
  | .ins _ _, ⟨g, C, dx, us, h, m, p⟩, b => ⟨g, C, dx, us, h, m, kas_cut p b⟩
  | .fz _, h, _ => h
theorem ABelow.of {v : V} : ∀ {a : A}, RA c w n v a → ABelow n a
  | .d _, _ => trivial
  | .c _, h => h.1
theorem paired_all {α β : Type} {F : α → β → Prop} {l₁ : List α} {l₂ : List β} (h : Paired F l₁ l₂) : ∀ b ∈ l₂, ∃ a, F a b := by
  induction h with
  | nil => exact fun b hb => nomatch hb
  | cons r _ ih => exact fun b hb => (List.mem_cons.mp hb).elim (fun e => by subst e; exact ⟨_, r⟩) (ih b)
theorem CBelow.of {a : Addr} : ∀ {x : Cell}, CR c w n H a x → CBelow n x
  | .lst _, ⟨_, _, _, p⟩ => fun b hb => let ⟨_, r⟩ := paired_all p b hb; ABelow.of r
  | .dK _, ⟨_, _, _, p⟩ => fun b hb => let ⟨_, r⟩ := paired_all p b hb; ABelow.of r.2
  | .dT _, ⟨_, _, _, p⟩ => fun b hb => let ⟨_, r⟩ := paired_all p b hb; ABelow.of r.2
  | .ins _ _, ⟨_, _, _, _, _, _, p⟩ => fun b hb => let ⟨_, r⟩ := paired_all p b hb; ABelow.of r.2
  | .fz _, _ => trivial
theorem RelS.trunc (r0 : RelS c w st H) (r : RelS c w2 st2 H2) (t : Trunc st st2) : RelS c w2 (st2.take st.length) H2 where
  same := r.same
  inj := fun i j hi hj => by
    rw [List.length_take] at hi hj
    exact r.inj i j (by omega) (by omega)
  cell := fun i x h => by
    have hl := RelS.lt h
    rw [List.length_take] at hl ⊢
    have e : min st.length st2.length = st.length := Nat.min_eq_left t.1
    rw [e] at hl ⊢
    rw [List.getElem?_take_of_lt hl] at h
    refine (r.cell i x h).cut ?_
    rcases t.2 i hl with q | ⟨y, q, b⟩
    · rw [q] at h
      exact CBelow.of (r0.cell i x h)
    · rw [q] at h
      cases h
      exact b
theorem Ext.cut (e : Ext w st.length w2 st2.length) (t : Trunc st st2) : Ext w st.length w2 (st2.take st.length).length := ⟨e.same, e.cells, by rw [List.length_take]; have := t.1; omega⟩
theorem take_len (t : Trunc st st2) : (st2.take st.length).length = st.length := by rw [List.length_take]; have := t.1; omega
theorem Rel.trunc (r0 : RelS c w st H) (r : Rel c w2 σa st2 σ H2) (t : Trunc st st2) : Rel c w2 (σa.map (keepA st.length)) (st2.take st.length) σ H2 :=
  ⟨r0.trunc r.rs t, by rw [List.length_map]; exact r.len, fun i a h => by
    rw [List.getElem?_map] at h
    obtain ⟨y, h1, h2⟩ := Option.map_eq_some_iff.mp h
    rw [take_len t]
    cases y with
    | none => cases h2
    | some b =>
      obtain ⟨v, e, ra⟩ := r.sl i b h1
      cases b with
      | d x => cases h2; exact ⟨v, e, ra⟩
      | c j =>
        have h2 : (if j < st.length then some (A.c j) else none) = some a := h2
        split at h2
        · rename_i hj
          cases h2
          exact ⟨v, e, hj, ra.2⟩
        · cases h2⟩
end
/-- behind a turn: the cells that it made are forgotten -/
noncomputable def mTrunc (m : MS) : MS := fun σ st => match m σ st with
  | .nx σ1 st1 => needO (Trunc st st1) (.nx (σ1.map (keepA st.length)) (st1.take st.length))
  | .ct σ1 st1 => needO (Trunc st st1) (.ct (σ1.map (keepA st.length)) (st1.take st.length))
  | .bk σ1 st1 => needO (Trunc st st1) (.bk (σ1.map (keepA st.length)) (st1.take st.length))
  | o => o
theorem s_trunc {X : Cx} {c : Ctx} {W : WX} {ss : List Stmt} {m : MS} (h : PSs X ss (tMS c W m)) : PSs X ss (tMS c W (mTrunc m)) := pss_imp h fun D σ H ⟨w, σa, st, rl, p⟩ => by
  refine ⟨w, σa, st, rl, ?_⟩
  unfold mTrunc at p
  cases ho : m σa st with
  | nx σ1 st1 =>
    rw [ho] at p
    obtain ⟨t, p⟩ := PostO.need p
    exact fun σ' w' H' e r => p σ' w' H' (e.cut t) (Rel.trunc rl.rs r t)
  | ct σ1 st1 =>
    rw [ho] at p
    obtain ⟨t, p⟩ := PostO.need p
    exact fun σ' w' H' e r => p σ' w' H' (e.cut t) (Rel.trunc rl.rs r t)
  | bk σ1 st1 =>
    rw [ho] at p
    obtain ⟨t, p⟩ := PostO.need p
    exact fun σ' w' H' e r => p σ' w' H' (e.cut t) (Rel.trunc rl.rs r t)
  | rt _ _ => rw [ho] at p; exact p
  | ex _ _ _ => rw [ho] at p; exact p
  | no => rw [ho] at p; exact p
/-! ### while -/
def whileN (t : MT) (b : MS) : Nat → Slots → Store → Out
  | 0, _, _ => .no
  | n + 1, σ, st => lift (t σ st) σ fun k st1 => if k then match b σ st1 with
      | .nx σ2 st2 => whileN t b n σ2 st2
      | .ct σ2 st2 => whileN t b n σ2 st2
      | .bk σ2 st2 => .nx σ2 st2
      | o => o
    else .nx σ st1
theorem whileN_s {t : MT} {b : MS} (n : Nat) (σ : Slots) (st : Store) : whileN t b (n + 1) σ st = lift (t σ st) σ fun k st1 => if k then match b σ st1 with
      | .nx σ2 st2 => whileN t b n σ2 st2
      | .ct σ2 st2 => whileN t b n σ2 st2
      | .bk σ2 st2 => .nx σ2 st2
      | o => o
    else .nx σ st1 := rfl
open Classical in
noncomputable def mWhile (t : MT) (b : MS) : MS := fun σ st => if h : ∃ n, whileN t b n σ st ≠ .no then whileN t b (choose h) σ st else .no
theorem whileN_up {t : MT} {b : MS} : ∀ {n : Nat} {σ : Slots} {st : Store}, whileN t b n σ st ≠ .no → whileN t b (n + 1) σ st = whileN t b n σ st
  | 0, _, _, h => absurd rfl h
  | n + 1, σ, st, h => by
    rw [whileN_s (n + 1), whileN_s n]
    rw [whileN_s] at h
    cases ht : t σ st with
    | no => rfl
    | ex _ _ => rfl
    | ok k st1 =>
      rw [ht] at h
      simp only [lift] at h ⊢
      cases k with
      | false => rfl
      | true =>
        simp only [if_true] at h ⊢
        cases hb : b σ st1 with
        | nx σ2 st2 => rw [hb] at h; exact whileN_up h
        | ct σ2 st2 => rw [hb] at h; exact whileN_up h
        | _ => rfl
theorem whileN_le {t : MT} {b : MS} {n m : Nat} {σ : Slots} {st : Store} (h : whileN t b n σ st ≠ .no) (l : n ≤ m) : whileN t b m σ st = whileN t b n σ st := by
  induction l with
  | refl => rfl
  | step _ ih => rw [whileN_up (by rw [ih]; exact h), ih]
theorem mWhile_of {t : MT} {b : MS} {n : Nat} {σ : Slots} {st : Store} {o : Out} (h : whileN t b n σ st = o) (ho : o ≠ .no) : mWhile t b σ st = o := by
  unfold mWhile
  have hh : ∃ n, whileN t b n σ st ≠ .no := ⟨n, by rw [h]; exact ho⟩
  rw [dif_pos hh]
  have h1 := Classical.choose_spec hh
  rcases Nat.le_total n (Classical.choose hh) with l | l
  · rw [whileN_le (by rw [h]; exact ho) l, h]
  · rw [← whileN_le h1 l, h]
theorem mWhile_ex {t : MT} {b : MS} {σ : Slots} {st : Store} (h : mWhile t b σ st ≠ .no) : ∃ n, whileN t b n σ st = mWhile t b σ st := by
  unfold mWhile at h ⊢
  by_cases hh : ∃ n, whileN t b n σ st ≠ .no
  · rw [dif_pos hh]; exact ⟨_, rfl⟩
  · rw [dif_neg hh] at h; exact absurd rfl h
/-- one turn -/
theorem mWhile_eq (t : MT) (b : MS) (σ : Slots) (st : Store) : mWhile t b σ st = lift (t σ st) σ fun k st1 => if k then match b σ st1 with
      | .nx σ2 st2 => mWhile t b σ2 st2
      | .ct σ2 st2 => mWhile t b σ2 st2
      | .bk σ2 st2 => .nx σ2 st2
      | o => o
    else .nx σ st1 := by
  have key : ∀ o, (lift (t σ st) σ fun k st1 => if k then match b σ st1 with
      | .nx σ2 st2 => mWhile t b σ2 st2
      | .ct σ2 st2 => mWhile t b σ2 st2
      | .bk σ2 st2 => .nx σ2 st2
      | o => o
    else .nx σ st1) = o → o ≠ .no → ∃ n, whileN t b n σ st = o := by
    intro o h ho
    cases ht : t σ st with
    | no => rw [ht] at h; exact absurd h.symm ho
    | ex x s => rw [ht] at h; exact ⟨1, by rw [whileN_s, ht]; exact h⟩
    | ok k st1 =>
      rw [ht] at h
      simp only [lift] at h
      cases k with
      | false => exact ⟨1, by rw [whileN_s, ht]; exact h⟩
      | true =>
        simp only [if_true] at h
        cases hb : b σ st1 with
        | nx σ2 st2 =>
          rw [hb] at h
          obtain ⟨n, hn⟩ := mWhile_ex (t := t) (b := b) (σ := σ2) (st := st2) (fun z => ho (h.symm.trans z))
          exact ⟨n + 1, by rw [whileN_s, ht]; simp only [lift, if_true, hb]; rw [hn]; exact h⟩
        | ct σ2 st2 =>
          rw [hb] at h
          obtain ⟨n, hn⟩ := mWhile_ex (t := t) (b := b) (σ := σ2) (st := st2) (fun z => ho (h.symm.trans z))
          exact ⟨n + 1, by rw [whileN_s, ht]; simp only [lift, if_true, hb]; rw [hn]; exact h⟩
        | bk σ2 st2 => rw [hb] at h; exact ⟨1, by rw [whileN_s, ht]; simp only [lift, if_true, hb]; exact h⟩
        | rt a s => rw [hb] at h; exact ⟨1, by rw [whileN_s, ht]; simp only [lift, if_true, hb]; exact h⟩
        | ex a s s2 => rw [hb] at h; exact ⟨1, by rw [whileN_s, ht]; simp only [lift, if_true, hb]; exact h⟩
        | no => rw [hb] at h; exact absurd h.symm ho
  generalize hg : (lift (t σ st) σ fun k st1 => if k then match b σ st1 with
      | .nx σ2 st2 => mWhile t b σ2 st2
      | .ct σ2 st2 => mWhile t b σ2 st2
      | .bk σ2 st2 => .nx σ2 st2
      | o => o
    else .nx σ st1) = o
  by_cases ho : o = .no
  · subst ho
    apply Classical.byContradiction
    intro hne
    obtain ⟨n, hn⟩ := mWhile_ex hne
    cases n with
    | zero => rw [whileN] at hn; exact hne hn.symm
    | succ n =>
      rw [← hn] at hne
      rw [whileN_s] at hne
      apply hne
      rw [← hg]
      cases ht : t σ st with
      | no => rfl
      | ex x s => rfl
      | ok k st1 =>
        rw [ht] at hne hg
        simp only [lift] at hne hg ⊢
        cases k with
        | false => rfl
        | true =>
          simp only [if_true] at hne hg ⊢
          cases hb : b σ st1 with
          | nx σ2 st2 => rw [hb] at hne; exact (mWhile_of rfl hne).symm
          | ct σ2 st2 => rw [hb] at hne; exact (mWhile_of rfl hne).symm
          | _ => rfl
  · obtain ⟨n, hn⟩ := key o hg ho
    exact mWhile_of hn ho
section
variable {X : Cx} {c : Ctx} {W : WX} {e tg iter elt : Expr} {body : List Stmt} {t : MT} {b : MS} {pos : Pos}
theorem s_while (hp : PassesOwn (model X.prog X.w) X.A X.env X.xe) (ht : PT X e (tT c W t)) (hb : PSs X body (tMS c W b)) : PS X (.While e body [] pos) (tMS c W (mWhile t b)) := ps_imp (ps_while hp ht hb) fun D σ H ⟨w, σa, st, rl, p⟩ => by
  have hne : mWhile t b σa st ≠ .no := fun z => by rw [z] at p; exact p
  obtain ⟨n, hn⟩ := mWhile_ex hne
  rw [← hn] at p
  refine ⟨fun m σ H => ∃ w' σa' st', Rel c w' σa' st' σ H ∧ PostO c w' st'.length W D (whileN t b m σa' st'), ⟨n, w, σa, st, rl, p⟩, ?_⟩
  rintro m σ1 H1 ⟨w1, σa1, st1, rl1, p1⟩
  cases m with
  | zero => exact p1.elim
  | succ m =>
    rw [whileN_s] at p1
    refine ⟨w1, σa1, st1, rl1, PostO.lift p1 fun k k' st2 w2 H2 e2 rl2 r p2 => ?_⟩
    subst r
    cases k with
    | false => exact iteF (PostO.nxt p2 rl2)
    | true =>
      refine iteT ⟨fun σ' H' => ∃ w' σa' st', Rel c w' σa' st' σ' H' ∧ PostO c w' st'.length W D (whileN t b m σa' st'), fun σ' H' q => ⟨m, Nat.lt_succ_self m, q⟩, w2, σa1, st2, rl2, ?_⟩
      simp only [if_true] at p2
      cases hb : b σa1 st2 with
      | nx σ3 st3 => rw [hb] at p2; exact fun σ' w' H' e r => ⟨w', σ3, st3, r, PostO.mono e p2⟩
      | ct σ3 st3 => rw [hb] at p2; exact fun σ' w' H' e r => ⟨w', σ3, st3, r, PostO.mono e p2⟩
      | bk σ3 st3 => rw [hb] at p2; exact p2
      | rt _ _ => rw [hb] at p2; exact p2
      | ex _ _ _ => rw [hb] at p2; exact p2
      | no => rw [hb] at p2; exact p2
end
/-! ### for -/
/-- what is walked: the items, and what must stay true of the store -/
structure Walk where
  items : List A
  ok : Store → Prop
abbrev MI := Slots → Store → Res Walk
def ItA (c : Ctx) (w : Wd) (n : Nat) (J : It) (k : Walk) : Prop := ∀ (w1 : Wd) (st1 : Store) (H1 : Hp), Ext w n w1 st1.length → RelS c w1 st1 H1 → k.ok st1 →
  J.stop k.items.length H1 ∧ ∀ i a, k.items[i]? = some a → J.go i H1 ∧ ∀ v H2, J.yld i H1 v H2 → ∀ σa σ, Rel c w1 σa st1 σ H1 → ∃ w2, Ext w1 st1.length w2 st1.length ∧ Rel c w2 σa st1 σ H2 ∧ RA c w2 st1.length v a
def tMI (c : Ctx) (W : WX) (it : MI) : TI := fun σ H R => ∃ w σa st, Rel c w σa st σ H ∧ Post c w st.length σa σ (fun w n J k => ItA c w n J k) W R (it σa st)
noncomputable def forA (g : MG) (b : MS) (ok : Store → Prop) : List A → Slots → Store → Out
  | [], σ, st => needO (ok st) (.nx σ st)
  | x :: r, σ, st => needO (ok st) (match g x σ st with
    | none => .no
    | some (σ1, st1) => match b σ1 st1 with
      | .nx σ2 st2 => forA g b ok r σ2 st2
      | .ct σ2 st2 => forA g b ok r σ2 st2
      | .bk σ2 st2 => .nx σ2 st2
      | o => o)
noncomputable def mFor (it : MI) (g : MG) (b : MS) : MS := fun σ st => lift (it σ st) σ fun k st1 => forA g b k.ok k.items σ st1
section
variable {X : Cx} {c : Ctx} {W : WX} {e a1 a2 a3 tg iter elt : Expr} {es : List Expr} {body : List Stmt} {t : MT} {b : MS} {it : MI} {g : MG} {f : ME} {fs : MA} {p pos : Pos}
theorem s_for (hp : PassesOwn (model X.prog X.w) X.A X.env X.xe) (hc : X.calm = true) (hi : PI X tg iter (tMI c W it)) (hg : PG X tg (tMG c g)) (hb : PSs X body (tMS c W b)) (hs : ∀ x, foldedSetIterable iter X.env x = pure x := by intro _; rfl) :
    PS X (.For tg iter body [] pos) (tMS c W (mFor it g b)) := ps_imp (ps_for hp hc hi hg hb hs) fun D σ H ⟨w, σa, st, rl, p⟩ =>
  ⟨w, σa, st, rl, PostO.lift p fun J k st1 w1 H1 e1 rl1 hk p1 => by
    refine ⟨fun i m σ H => ∃ w' σa' st', m = k.items.length - i ∧ i ≤ k.items.length ∧ Ext w1 st1.length w' st'.length ∧ Rel c w' σa' st' σ H ∧ PostO c w' st'.length W D (forA g b k.ok (k.items.drop i) σa' st'), ⟨_, w1, σa, st1, rfl, Nat.zero_le _, Ext.refl _ _, rl1, p1⟩, ?_⟩
    rintro i m σ2 H2 ⟨w2, σa2, st2, rfl, hi, e2, rl2, p2⟩
    by_cases hlt : i < k.items.length
    · have hx : k.items[i]? = some k.items[i] := List.getElem?_eq_getElem hlt
      rw [List.drop_eq_getElem_cons hlt, forA] at p2
      obtain ⟨ok, p2⟩ := PostO.need p2
      obtain ⟨go, yl⟩ := (hk w2 st2 H2 e2 rl2.rs ok).2 i _ hx
      refine .inr ⟨go, fun σ' H' => ∃ w' σa' st', Ext w1 st1.length w' st'.length ∧ Rel c w' σa' st' σ' H' ∧ PostO c w' st'.length W D (forA g b k.ok (k.items.drop (i + 1)) σa' st'), fun σ' H' ⟨w', σa', st', q⟩ => ⟨k.items.length - (i + 1), by omega, w', σa', st', rfl, hlt, q⟩, fun v H3 y => ?_⟩
      obtain ⟨w3, e3, rl3, ra⟩ := yl v H3 y σa2 σ2 rl2
      refine ⟨w3, σa2, st2, _, rl3, ra, ?_⟩
      split at p2
      · exact p2.elim
      · rename_i σ4 st4 hg
        rw [hg]
        intro σ' w' H' e4 rl4
        refine ⟨w', σ4, st4, rl4, ?_⟩
        have ex := (e2.trans e3).trans e4
        have p3 := PostO.mono (e3.trans e4) p2
        cases hb : b σ4 st4 with
        | nx σ5 st5 => rw [hb] at p3; exact fun σ' w' H' e r => ⟨w', σ5, st5, ex.trans e, r, PostO.mono e p3⟩
        | ct σ5 st5 => rw [hb] at p3; exact fun σ' w' H' e r => ⟨w', σ5, st5, ex.trans e, r, PostO.mono e p3⟩
        | bk σ5 st5 => rw [hb] at p3; exact p3
        | rt _ _ => rw [hb] at p3; exact p3
        | ex _ _ _ => rw [hb] at p3; exact p3
        | no => rw [hb] at p3; exact p3
    · have e : i = k.items.length := by omega
      subst e
      rw [List.drop_length, forA] at p2
      obtain ⟨ok, p2⟩ := PostO.need p2
      exact .inl ⟨(hk w2 st2 H2 e2 rl2.rs ok).1, PostO.nxt p2 rl2⟩⟩
theorem pi_imp {t t' : TI} (h : PI X tg iter t) (i : ∀ σ H R, t' σ H R → t σ H R) : PI X tg iter t' := ⟨fun pins s σ H R I q => h.run pins s σ H R I (i σ H R q)⟩
/-- over a list -/
def iListM (f : ME) : MI := fun σ st => (f σ st).bind fun x st1 => match viewS st1 x with
  | some xs => .ok ⟨xs, fun s => viewS s x = some xs⟩ st1
  | none => .no
theorem i_list (h : PE X e (tM c W f)) (F : Fits X c := by exact ⟨rfl, rfl⟩) : PI X tg e (tMI c W (iListM f)) := pi_imp (pi_list h) fun σ H R ⟨w, σa, st, rl, p⟩ => ⟨w, σa, st, rl, p.bind fun v x st1 w1 H1 _ rl1 rx p1 => by
  split at p1
  · rename_i xs hv
    obtain ⟨a, us, rfl, q, pr⟩ := viewS_ok rl1.rs rx hv
    rw [F.K]
    refine ⟨a, rfl, ⟨us, q⟩, p1.here rl1 fun w2 st2 H2 e2 rs2 ok => ?_⟩
    obtain ⟨a', us', e', q', pr'⟩ := viewS_ok rs2 (rx.ext e2) ok
    cases e'
    refine ⟨⟨us', q', by rw [pr'.length]; exact Nat.le_refl _⟩, fun i y hy => ?_⟩
    obtain ⟨u, hu, ru⟩ := paired_get pr' hy
    refine ⟨⟨us', u, q', hu⟩, fun v H3 ⟨e3, yv⟩ σa2 σ2 rl2 => ⟨w2, Ext.refl _ _, by rw [e3]; exact rl2, ?_⟩⟩
    have := yv us' q'
    rw [hu] at this
    cases this
    exact ru
  · exact p1.elim⟩
/-- over a tuple -/
def iTupM (f : ME) : MI := fun σ st => (f σ st).bind fun x st1 => match viewT x with
  | some ds => .ok ⟨ds.map .d, fun _ => True⟩ st1
  | none => .no
theorem i_tup (h : PE X e (tM c W f)) (F : Fits X c := by exact ⟨rfl, rfl⟩) (inj : ∀ (pins : List (Addr × Obj)) (s : Shared) (σ : L2.St) (H : Hp) (a : Addr) (xs ys : List V), Inv X pins σ H s → SqT X.K H a xs → SqT X.K H a ys → xs = ys := by exact fun _ _ _ _ _ _ _ I h h' => I.tuple_inj h h') :
    PI X tg e (tMI c W (iTupM f)) := ⟨fun pins s σ H R I ⟨w, σa, st, rl, p⟩ => (pi_tup h).run pins s σ H R I ⟨w, σa, st, rl, p.bind fun v x st1 w1 H1 _ rl1 rx p1 => by
  split at p1
  · rename_i ds hv
    obtain ⟨a, us, rfl, q, pr⟩ := viewT_ok rl1.rs rx hv
    rw [F.K]
    refine ⟨a, rfl, ⟨us, q⟩, p1.here rl1 fun w2 st2 H2 e2 rs2 ok => ?_⟩
    obtain ⟨a', us', e', q', pr'⟩ := viewT_ok rs2 (rx.ext e2) hv
    cases e'
    have prd : Paired (RA c w2 st2.length) us' (ds.map A.d) := ras_d pr'
    refine ⟨⟨us', q', by rw [prd.length]; exact Nat.le_refl _⟩, fun i y hy => ?_⟩
    obtain ⟨u, hu, ru⟩ := paired_get prd hy
    refine ⟨⟨us', u, q', hu⟩, fun v H3 ⟨e3, yv⟩ σa2 σ2 rl2 => ⟨w2, Ext.refl _ _, by rw [e3]; exact rl2, ?_⟩⟩
    have := yv us' q'
    rw [hu] at this
    cases this
    exact ru
  · exact p1.elim⟩⟩
/-- ranges -/
def rangeA (lo : Int) (n : Nat) (s : Int) : List A := (List.range n).map fun i => A.d (.int (lo + (i : Nat) * s))
theorem ItA.range {w : Wd} {m : Nat} {lo : Int} {n : Nat} : ItA c w m (Itr lo n) ⟨rangeA lo n 1, fun _ => True⟩ := fun w1 st1 H1 e rs _ => by
  refine ⟨show n ≤ (rangeA lo n 1).length by unfold rangeA; rw [List.length_map, List.length_range]; exact Nat.le_refl _, fun i a h => ?_⟩
  have h : (rangeA lo n 1)[i]? = some a := h
  unfold rangeA at h
  rw [List.getElem?_map] at h
  obtain ⟨j, h1, rfl⟩ := Option.map_eq_some_iff.mp h
  obtain ⟨hl, h2⟩ := List.getElem?_eq_some_iff.mp h1
  rw [List.length_range] at hl
  rw [List.getElem_range] at h2
  subst h2
  exact ⟨hl, fun v H2 ⟨e3, ev⟩ σa σ rl => ⟨w1, Ext.refl _ _, by rw [e3]; exact rl, by rw [ev, Int.mul_one]; exact rfl⟩⟩
theorem ItA.rangeC {w : Wd} {m : Nat} {lo s : Int} {n : Nat} : ItA c w m (Itc lo s n) ⟨rangeA lo n s, fun _ => True⟩ := fun w1 st1 H1 e rs _ => by
  refine ⟨show n ≤ (rangeA lo n s).length by unfold rangeA; rw [List.length_map, List.length_range]; exact Nat.le_refl _, fun i a h => ?_⟩
  have h : (rangeA lo n s)[i]? = some a := h
  unfold rangeA at h
  rw [List.getElem?_map] at h
  obtain ⟨j, h1, rfl⟩ := Option.map_eq_some_iff.mp h
  obtain ⟨hl, h2⟩ := List.getElem?_eq_some_iff.mp h1
  rw [List.length_range] at hl
  rw [List.getElem_range] at h2
  subst h2
  exact ⟨hl, fun v H2 ⟨e3, ev⟩ σa σ rl => ⟨w1, Ext.refl _ _, by rw [e3]; exact rl, by rw [ev]; exact rfl⟩⟩
noncomputable def iRng1M (fs : MA) : MI := fun σ st => (fs σ st).bind fun xs st1 => match xs with
  | [.d (.int j)] => ifc (-(2 ^ 62) ≤ j ∧ j < 2 ^ 62) (.ok ⟨rangeA 0 j.toNat 1, fun _ => True⟩ st1) .no
  | _ => .no
noncomputable def iRng2M (fs : MA) : MI := fun σ st => (fs σ st).bind fun xs st1 => match xs with
  | [.d (.int i), .d (.int j)] => ifc (-(2 ^ 62) ≤ i ∧ i < 2 ^ 62 ∧ -(2 ^ 62) ≤ j ∧ j < 2 ^ 62) (.ok ⟨rangeA i (j - i).toNat 1, fun _ => True⟩ st1) .no
  | _ => .no
noncomputable def iRng3M (fs : MA) : MI := fun σ st => (fs σ st).bind fun xs st1 => match xs with
  | [.d (.int i), .d (.int j), .d (.int k)] => need (∃ n, RgC i j k n) (.ok ⟨rangeA i (Builtin.Range.rangeSize i j k).toNat k, fun _ => True⟩ st1)
  | _ => .no
theorem i_range1 (hm : c.mg "range" = none) (ha : PA X [a1] (tMA c W fs)) (hgl : Gl X "range" := by rfl) (F : Fits X c := by exact ⟨rfl, rfl⟩) (hs : starEach [a1] X.env = [(false, eval a1 X.env)] := by rfl) : PI X tg (.Call (.Name "range" p) [a1] [] pos) (tMI c W (iRng1M fs)) :=
  pi_imp (pi_range1 hgl (by rw [F.mg]; exact hm) ha hs) fun σ H R ⟨w, σa, st, rl, p⟩ => ⟨w, σa, st, rl, p.bind fun vs xs st1 w1 H1 _ rl1 rx p1 => by
    simp only [ifc] at p1
    split at p1
    · split at p1
      · rename_i h
        obtain ⟨v, rfl, r⟩ := pr1 rx
        cases r
        exact ⟨_, rfl, h.1, h.2, p1.here rl1 ItA.range⟩
      · exact p1.elim
    · exact p1.elim⟩
theorem i_range2 (hm : c.mg "range" = none) (ha : PA X [a1, a2] (tMA c W fs)) (hgl : Gl X "range" := by rfl) (F : Fits X c := by exact ⟨rfl, rfl⟩) (hs : starEach [a1, a2] X.env = [(false, eval a1 X.env), (false, eval a2 X.env)] := by rfl) (hs2 : starEach [a2] X.env = [(false, eval a2 X.env)] := by rfl) : PI X tg (.Call (.Name "range" p) [a1, a2] [] pos) (tMI c W (iRng2M fs)) :=
  pi_imp (pi_range2 hgl (by rw [F.mg]; exact hm) ha hs hs2) fun σ H R ⟨w, σa, st, rl, p⟩ => ⟨w, σa, st, rl, p.bind fun vs xs st1 w1 H1 _ rl1 rx p1 => by
    simp only [ifc] at p1
    split at p1
    · split at p1
      · rename_i h
        obtain ⟨v, u, rfl, r, r'⟩ := pr2 rx
        cases r
        cases r'
        exact ⟨_, _, rfl, h, p1.here rl1 ItA.range⟩
      · exact p1.elim
    · exact p1.elim⟩
theorem i_range3 (hm : c.mg "range" = none) (ha : PA X [a1, a2, a3] (tMA c W fs)) (hgl : Gl X "range" := by rfl) (F : Fits X c := by exact ⟨rfl, rfl⟩) (hs : starEach [a1, a2, a3] X.env = (false, eval a1 X.env) :: starEach [a2, a3] X.env := by rfl) (hpl : (backTo pos (starEach [a2, a3] X.env)).any (·.1) = false := by rfl) : PI X tg (.Call (.Name "range" p) [a1, a2, a3] [] pos) (tMI c W (iRng3M fs)) :=
  pi_imp (pi_range3 hgl (by rw [F.mg]; exact hm) ha hs hpl) fun σ H R ⟨w, σa, st, rl, p⟩ => ⟨w, σa, st, rl, p.bind fun vs xs st1 w1 H1 _ rl1 rx p1 => by
    split at p1
    · obtain ⟨⟨n, h⟩, p1⟩ := p1.need
      obtain ⟨v, u, z, rfl, r, r', r2⟩ := pr3 rx
      cases r
      cases r'
      cases r2
      have e := h.2.2.2
      rw [e, Int.toNat_natCast] at p1
      exact ⟨_, _, _, n, rfl, h, p1.here rl1 ItA.rangeC⟩
    · exact p1.elim⟩
end
end Am
/-! ### Am: defs and their calls -/
namespace Am
open PySem PySem.Spec PyProof.Rows L2
/-- the promise of a def whose machine is f -/
def spM (c : Ctx) (f : MF) : Sp := fun vs H Q E => ∃ w st as, RelS c w st H ∧ Paired (RA c w st.length) vs as ∧ match f as st with
  | .ok a st1 => ∀ v w1 H1, Ext w st.length w1 st1.length → RelS c w1 st1 H1 → RA c w1 st1.length v a → Q v H1
  | .ex x st1 => ∀ cls d w1 H1, Ext w st.length w1 st1.length → RelS c w1 st1 H1 → RX c w1 x cls d → E cls d H1
  | .no => False
def Rel.of {c : Ctx} {w w1 : Wd} {σa : Slots} {st st1 : Store} {σ : L2.St} {H H1 : Hp} (r : Rel c w σa st σ H) (e : Ext w st.length w1 st1.length) (rs : RelS c w1 st1 H1) : Rel c w1 σa st1 σ H1 :=
  ⟨rs, r.len, fun i a h => let ⟨v, q, ra⟩ := r.sl i a h; ⟨v, q, ra.ext e⟩⟩
def mCall (f : MF) (fs : MA) : ME := fun σ st => (fs σ st).bind f
theorem passAtM {X : Cx} {W : WX} (tk : Takes X W) (σ : L2.St) : PassesAt (L2.CX X.prog X.w) X σ (fun cls d H => W cls d σ H) := fun pins H s e s' I c => tk e s' (XE.of_call I (fun _ _ _ h => h) c)
theorem takes0 {X : Cx} : Takes X (fun _ _ _ _ => False) := fun _ _ ⟨_, _, _, _, _, _, _, _, _, _, _, _, _, _, _, _, h⟩ => h.elim
section
variable {X : Cx} {c : Ctx} {W : WX} {e : Expr} {es : List Expr} {fs : MA} {f : MF} {k : Nat} {ps : List Str} {x : Str} {p pos : Pos}
theorem entail_call (σ : L2.St) (H : Hp) (Q : VK) : tM c W (mCall f fs) σ H Q → tCallSD (spM c f) [] (fun σ cls d H => W cls d σ H) (tMA c W fs) σ H Q := fun ⟨w, σa, st, rl, q⟩ =>
  ⟨w, σa, st, rl, q.bind fun vs xs st1 w1 H1 _ rl1 rx p1 => ⟨w1, st1, xs, rl1.rs, by rw [List.append_nil]; exact rx, by
    cases hf : f xs st1 with
    | ok a st2 => rw [hf] at p1; exact fun v w2 H2 e2 rs ra => p1 v w2 H2 e2 (rl1.of e2 rs) ra
    | ex y st2 => rw [hf] at p1; exact fun cls d w2 H2 e2 rs rx => p1 cls d w2 H2 e2 (rl1.of e2 rs) rx
    | no => rw [hf] at p1; exact p1⟩⟩
theorem e_call (h : Rw.Has X.prog X.w X.K X.mg X.base (L2.CX X.prog X.w) k x ps (spM c f)) (hr : Room k X.A) (tk : Takes X W) (ha : PA X (e :: es) (tMA c W fs)) (hgl : Gl X x := by rfl) (hdb : (x == ("__debug__" : Str)) = false := by decide)
    (he : starEach (e :: es) X.env = (false, eval e X.env) :: starEach es X.env := by rfl) (hpl : (backTo pos (starEach es X.env)).any (·.1) = false := by rfl) : PE X (.Call (.Name x p) (e :: es) [] pos) (tM c W (mCall f fs)) := by
  obtain ⟨fa, fd, g, kp, b, _, F⟩ := h
  exact pe_imp (pe_callSD F hr hgl g kp b .nil (fun σ => passAtM tk σ) ha hdb he hpl) entail_call
/-- no arguments -/
def tCallN (sp : Sp) (E : L2.St → XK) : TE := fun σ H Q => sp [] H Q (E σ)
theorem pe_callN {CX : CXT} {g : Addr} {fd : FuncData} {sp : Sp} {E : L2.St → XK} (F : FnOk X.prog X.w X.K X.mg X.base CX k g fd ps sp) (room : Room k X.A) (gl : Gl X x) (at_ : X.mg x = some (.ref g)) (kp : PySem.W.keepIn X.K (.ref g) = true) (bd : Binds X.K fd ps []) (px : ∀ σ, PassesAt CX X σ (E σ))
    (nd : (x == ("__debug__" : Str)) = false := by decide) : PE X (.Call (.Name x p) [] [] pos) (tCallN sp E) where
  run := fun pins s σ H Q I h => wpAny_Call_Name_kw (ld_glob I gl at_ (PySem.W.callWith_K0 I.kIn kp (run_fnSD (vs := []) (us := []) F room bd .nil (px σ) I .nil h)) nd)
theorem e_call0 (h : Rw.Has X.prog X.w X.K X.mg X.base (L2.CX X.prog X.w) k x ps (spM c f)) (hr : Room k X.A) (tk : Takes X W) (hgl : Gl X x := by rfl) (hdb : (x == ("__debug__" : Str)) = false := by decide) :
    PE X (.Call (.Name x p) [] [] pos) (tM c W (mCall f mNil)) := by
  obtain ⟨fa, fd, g, kp, b, _, F⟩ := h
  exact pe_imp (pe_callN (E := fun σ cls d H => W cls d σ H) F hr hgl g kp b (fun σ => passAtM tk σ) hdb) fun σ H Q ⟨w, σa, st, rl, q⟩ => ⟨w, st, [], rl.rs, .nil, by
    have q : Post c w st.length σa σ (RA c) W Q (f [] st) := q
    cases hf : f [] st with
    | ok a st2 => rw [hf] at q; exact fun v w2 H2 e2 rs ra => q v w2 H2 e2 (rl.of e2 rs) ra
    | ex y st2 => rw [hf] at q; exact fun cls d w2 H2 e2 rs rx => q cls d w2 H2 e2 (rl.of e2 rs) rx
    | no => rw [hf] at q; exact q⟩
end
/-! ### a def's exit -/
/-- what a body comes to: its result, its cells forgotten -/
def ABelowD (n : Nat) (a : A) : Prop := ABelow n a
/-- how a def hands back its result. 0: as it is, the store too; 1: as it is, the def's own cells forgotten; 2: as data; 3: its own cell moved to the front -/
noncomputable def exitR (k : Nat) (st : Store) (a : A) (st1 : Store) : Res A := match k with
  | 0 => .ok a st1
  | 1 => need (Trunc st st1 ∧ ABelow st.length a) (.ok a (st1.take st.length))
  | 2 => (frz a st1).bind fun b st2 => need (Trunc st st2 ∧ ABelow st.length b) (.ok b (st2.take st.length))
  | _ => match a with
    | .c i => match st1[i]? with
      | some x => need (st.length ≤ i ∧ Trunc st st1 ∧ CBelow st.length x) (.ok (.c st.length) (st1.take st.length ++ [x]))
      | none => .no
    | .d x => need (Trunc st st1 ∧ ABelow st.length (.d x)) (.ok (.d x) (st1.take st.length))
noncomputable def runDef (k : Nat) (n : Nat) (m : MS) : MF := fun as st => match m (as.map some ++ List.replicate (n - as.length) none) st with
  | .nx _ st1 => exitR k st (.d .non) st1
  | .rt a st1 => exitR k st a st1
  | .ex x _ st1 => need (k = 0 ∨ Trunc st st1) (.ex x (if k = 0 then st1 else st1.take st.length))
  | _ => .no
/-- an end of a def -/
def EndR (c : Ctx) (w : Wd) (n : Nat) (Q : VK) (E : XK) : Res A → Prop
  | .ok a st1 => ∀ v w1 H1, Ext w n w1 st1.length → RelS c w1 st1 H1 → RA c w1 st1.length v a → Q v H1
  | .ex x st1 => ∀ cls d w1 H1, Ext w n w1 st1.length → RelS c w1 st1 H1 → RX c w1 x cls d → E cls d H1
  | .no => False
section
variable {c : Ctx} {w w1 : Wd} {n : Nat} {Q : VK} {E : XK} {st st1 : Store} {H H1 : Hp}
theorem EndR.need {p : Prop} {r : Res A} (h : EndR c w n Q E (need p r)) : p ∧ EndR c w n Q E r := by
  unfold Am.need at h
  by_cases q : p
  · rw [if_pos q] at h; exact ⟨q, h⟩
  · rw [if_neg q] at h; exact h.elim
theorem frz_rs {a b : A} {v : V} {st2 : Store} (rs : RelS c w1 st1 H1) (r : RA c w1 st1.length v a) (h : frz a st1 = .ok b st2) : ∃ w2, Ext w1 st1.length w2 st2.length ∧ RelS c w2 st2 H1 ∧ RA c w2 st2.length v b := by
  cases a with
  | d x => cases h; exact ⟨w1, Ext.refl _ _, rs, r⟩
  | c i =>
    obtain ⟨hi, rfl⟩ := r
    have h : (match st1[i]? with | some (.fz x) => Res.ok (A.d x) st1 | some x => (match cellD x with | some d => .ok (.d d) (st1.set i (.fz d)) | none => .no) | none => .no) = .ok b st2 := h
    split at h
    · rename_i q
      cases h
      exact ⟨w1, Ext.refl _ _, rs, (rs.cell _ _ q).1⟩
    · rename_i x nf q
      split at h
      · rename_i d hd
        cases h
        obtain ⟨g, o, ho, hr⟩ := cell_live rs q (fun y z => nf y (by rw [z])) hd
        exact ⟨_, by rw [List.length_set]; exact w1.put_ext g, rs.freeze q g ho hr, hr⟩
      · cases h
    · cases h
theorem exit_ok {k : Nat} {a : A} {v : V} (r0 : RelS c w st H) (e : Ext w st.length w1 st1.length) (rs : RelS c w1 st1 H1) (ra : RA c w1 st1.length v a) (p : EndR c w st.length Q E (exitR k st a st1)) : Q v H1 := by
  unfold exitR at p
  split at p
  · exact p v w1 H1 e rs ra
  · obtain ⟨⟨t, b⟩, p⟩ := p.need
    exact p v w1 H1 (e.cut t) (r0.trunc rs t) (by rw [take_len t]; exact ra.cut b)
  · cases hf : frz a st1 with
    | ok b st2 =>
      rw [hf] at p
      obtain ⟨⟨t, b⟩, p⟩ := EndR.need (r := _) p
      obtain ⟨w2, e2, rs2, ra2⟩ := frz_rs rs ra hf
      exact p v w2 H1 ((e.trans e2).cut t) (r0.trunc rs2 t) (by rw [take_len t]; exact ra2.cut b)
    | ex _ _ =>
      have : ∀ (a : A) (st : Store) x s, frz a st ≠ .ex x s := fun a st x s h => by
        unfold frz at h
        split at h
        · cases h
        · split at h
          · cases h
          · split at h <;> cases h
          · cases h
      exact absurd hf (this _ _ _ _)
    | no => rw [hf] at p; exact p.elim
  · split at p
    · rename_i i
      split at p
      · rename_i x hx
        obtain ⟨⟨hi, t, b⟩, p⟩ := p.need
        obtain ⟨_, rfl⟩ := ra
        -- the cell i of w1 is st.length's
        have hil := RelS.lt hx
        let w2 : Wd := ⟨w1.G, fun j => if j = st.length then w1.E i else w1.E j⟩
        have e2 : ∀ j, j < st.length → w2.E j = w1.E j := fun j hj => if_neg (Nat.ne_of_lt hj)
        have e3 : w2.E st.length = w1.E i := if_pos rfl
        have hlen : (st1.take st.length ++ [x]).length = st.length + 1 := by rw [List.length_append, take_len t]; rfl
        have ext : Ext w1 st.length w2 (st.length + 1) := ⟨.refl _, e2, Nat.le_succ _⟩
        have r1 := r0.trunc rs t
        refine p _ w2 H1 ⟨e.same, fun j hj => (e2 j hj).trans (e.cells j hj), by rw [hlen]; exact Nat.le_succ _⟩ ⟨rs.same, fun j l hj hl q => ?_, fun j y hy => ?_⟩ ⟨by rw [hlen]; exact Nat.lt_succ_self _, by rw [e3]⟩
        · rw [hlen] at hj hl
          by_cases h1 : j = st.length
          · by_cases h2 : l = st.length
            · rw [h1, h2]
            · subst h1
              rw [e3, e2 l (by omega)] at q
              have := rs.inj i l hil (Nat.lt_of_lt_of_le (by omega) t.1) q
              omega
          · by_cases h2 : l = st.length
            · subst h2
              rw [e3, e2 j (by omega)] at q
              have := rs.inj j i (Nat.lt_of_lt_of_le (by omega) t.1) hil q
              omega
            · rw [e2 j (by omega), e2 l (by omega)] at q
              exact rs.inj j l (Nat.lt_of_lt_of_le (by omega) t.1) (Nat.lt_of_lt_of_le (by omega) t.1) q
        · rw [hlen]
          by_cases h1 : j < st.length
          · rw [List.getElem?_append_left (by rw [take_len t]; exact h1)] at hy
            have cr := r1.cell j y hy
            rw [take_len t] at cr
            rw [e2 j h1]
            exact cr.stay ext (fun g => g) rfl
          · have hl := RelS.lt hy
            rw [hlen] at hl
            have : j = st.length := by omega
            subst this
            rw [List.getElem?_append_right (by rw [take_len t]; exact Nat.le_refl _), take_len t, Nat.sub_self] at hy
            cases hy
            rw [e3]
            exact ((rs.cell i x hx).cut b).stay ext (fun g => g) rfl
      · exact p.elim
    · obtain ⟨⟨t, b⟩, p⟩ := EndR.need (r := _) p
      exact p v w1 H1 (e.cut t) (r0.trunc rs t) (by rw [take_len t]; exact ra.cut b)
end
/-- a def of np parameters and nn names -/
noncomputable def mF (np nn ex : Nat) (m : MS) : MF := fun as st => if as.length = np then runDef ex nn m as st else .no
section
variable {P : Program} {w : World} {K : PySem.W.Frag} {mg : Str → Option Value} {base : Heap} {k : Nat} {x qual : Str} {st : Stmt} {ps N : List Str}
/-- THE RULE of a def at f -/
theorem def_fn {f : Addr} {fd : FuncData} {m : MS} (np nn ex : Nat) (D : Fun K x qual st f fd) (S : FnScope N ps (defScope st)) (hp : ps.length = np) (hn : N.length = nn)
    (hbody : ∀ (cdv : Value) (A : Around) (outer : List Env) (s : Shared) (H : Hp) (E : XK), Room k (A.deeper (envOfC qual (defScope st) s.heap.objs.size f cdv)) →
      Takes (cxOf (L2.CX P w) P w K mg base N qual (defScope st) f cdv A outer s H E) (fun cls d _ H => E cls d H) →
      PSs (cxOf (L2.CX P w) P w K mg base N qual (defScope st) f cdv A outer s H E) (defBody st) (tMS ⟨K, mg⟩ (fun cls d _ H => E cls d H) m)) :
    FnOk P w K mg base (L2.CX P w) (k + 1) f fd ps (spM ⟨K, mg⟩ (mF np nn ex m)) := by
  subst hp hn
  refine D.okX S ?_ (fun cdv A outer s H vs Q E hr h => ⟨_, hbody cdv A outer s H E hr (takes_of rfl rfl rfl rfl), ?_⟩)
  · rintro vs H Q E ⟨w, st, as, rs, pr, h⟩
    apply Classical.byContradiction
    intro z
    have h : EndR ⟨K, mg⟩ w st.length Q E (if as.length = ps.length then runDef ex N.length m as st else .no) := h
    rw [if_neg (by rw [← pr.length]; exact z)] at h
    exact h
  · obtain ⟨w, st, as, rs, pr, h⟩ := h
    have h : EndR ⟨K, mg⟩ w st.length Q E (if as.length = ps.length then runDef ex N.length m as st else .no) := h
    by_cases hl : as.length = ps.length
    · rw [if_pos hl] at h
      have rl : Rel ⟨K, mg⟩ w (as.map some ++ List.replicate (N.length - as.length) none) st (L2.start N vs) H := by
        refine ⟨rs, ?_, fun i a hi => ?_⟩
        · unfold L2.start
          rw [List.length_append, List.length_append, List.length_map, List.length_map, List.length_replicate, List.length_replicate, pr.length]
        · have hil : i < as.length := by
            apply Classical.byContradiction
            intro z
            rw [List.getElem?_append_right (by rw [List.length_map]; omega), List.getElem?_replicate] at hi
            split at hi <;> cases hi
          rw [List.getElem?_append_left (by rw [List.length_map]; exact hil), List.getElem?_map] at hi
          obtain ⟨b, h1, h2⟩ := Option.map_eq_some_iff.mp hi
          cases h2
          obtain ⟨v, hv, ra⟩ := paired_get pr h1
          refine ⟨v, ?_, ra⟩
          unfold L2.start
          rw [List.getElem?_append_left (by rw [List.length_map, pr.length]; exact hil), List.getElem?_map, hv]
          rfl
      refine ⟨w, _, st, rl, ?_⟩
      unfold runDef at h
      cases hm : m (as.map some ++ List.replicate (N.length - as.length) none) st with
      | nx σ1 st1 => rw [hm] at h; exact fun σ w1 H1 e r => exit_ok (a := .d .non) rs e r.rs rfl h
      | rt a st1 => rw [hm] at h; exact fun v w1 H1 e r ra => exit_ok rs e r ra h
      | ex y σ1 st1 =>
        rw [hm] at h
        obtain ⟨t, h⟩ := EndR.need h
        intro σ cls d w1 H1 e r rx
        by_cases hk : ex = 0
        · rw [if_pos hk] at h
          exact h cls d w1 H1 e r.rs rx
        · rw [if_neg hk] at h
          have t := t.resolve_left hk
          exact h cls d w1 H1 (e.cut t) (rs.trunc r.rs t) rx
      | bk _ _ => rw [hm] at h; exact h.elim
      | ct _ _ => rw [hm] at h; exact h.elim
      | no => rw [hm] at h; exact h
    · rw [if_neg hl] at h
      exact h.elim
/-- THE RULE: a def keeps its machine's promise -/
theorem def_has {m : MS} (np nn ex : Nat) (D : Rw.Def K mg x qual st ps) (S : FnScope N ps (defScope st)) (hp : ps.length = np) (hn : N.length = nn)
    (hbody : ∀ (f : Addr) (cdv : Value) (A : Around) (outer : List Env) (s : Shared) (H : Hp) (E : XK), Room k (A.deeper (envOfC qual (defScope st) s.heap.objs.size f cdv)) →
      Takes (cxOf (L2.CX P w) P w K mg base N qual (defScope st) f cdv A outer s H E) (fun cls d _ H => E cls d H) →
      PSs (cxOf (L2.CX P w) P w K mg base N qual (defScope st) f cdv A outer s H E) (defBody st) (tMS ⟨K, mg⟩ (fun cls d _ H => E cls d H) m)) :
    Rw.Has P w K mg base (L2.CX P w) (k + 1) x ps (spM ⟨K, mg⟩ (mF np nn ex m)) := by
  obtain ⟨f, fd, g, F, b⟩ := D
  exact ⟨f, fd, g, F.kp, b, Rw.fun_look F, def_fn np nn ex F S hp hn (hbody f)⟩
end
end Am
/-! ### Am: comprehensions, raising -/
namespace Am
open PySem PySem.Spec PyProof.Rows L2
/-- a comprehension's target: the slots behind it -/
abbrev Pt := Slots → A → Option Slots
def pt1 (j : Nat) : Pt := fun σ x => some (σ.set j (some x))
def pt2 (i j : Nat) : Pt := fun σ x => match viewT x with
  | some [a, b] => some ((σ.set i (some (.d a))).set j (some (.d b)))
  | _ => none
def wipeA (σ : Slots) : List Nat → Slots
  | [] => σ
  | v :: vs => (wipeA σ vs).set v none
def PtOk (c : Ctx) (vs : List Nat) (pt : Pt) (g : TG) : Prop := ∀ (w : Wd) (σa σb : Slots) (st : Store) (σ : L2.St) (H : Hp) (x : A) (v : V) (Q : L2.St → Hp → Prop), Rel c w (wipeA σa vs) st (wipe σ vs) H → RA c w st.length v x → pt (wipeA σa vs) x = some σb →
  (∀ σ', Rel c w σb st σ' H → wipe σ' vs = wipe σ vs → Q σ' H) → g v (wipe σ vs) H Q
def noEx {α : Type} : Res α → Res α
  | .ok a st => .ok a st
  | _ => .no
noncomputable def lcA (pt : Pt) (t : MT) (f : ME) (n : Nat) (ok : Store → Prop) (σ : Slots) : List A → Store → Res Unit
  | [], st => need (ok st) (.ok () st)
  | x :: r, st => need (ok st) (match pt σ x with
    | none => .no
    | some σ1 => (noEx (t σ1 st)).bind fun b st1 => if b then (noEx (f σ1 st1)).bind fun y st2 => match st2[n]? with
        | some (.lst acc) => ifc (acc.length < SZ) (lcA pt t f n ok σ r (st2.set n (.lst (acc ++ [y])))) .no
        | _ => .no
      else lcA pt t f n ok σ r st1)
noncomputable def lcEnd (k : Bool) (st1 st2 : Store) : Res A := match st2[st1.length]? with
  | some (.lst acc) => if k then .ok (.c st1.length) st2 else match allD acc with
    | some ds => need (Trunc st1 st2) (.ok (.d (.list ds)) (st2.take st1.length))
    | none => .no
  | _ => .no
noncomputable def mLc (k : Bool) (vs : List Nat) (pt : Pt) (it : MI) (t : MT) (f : ME) : ME := fun σ st => (it σ st).bind fun wk st1 => (lcA pt t f st1.length wk.ok (wipeA σ vs) wk.items (st1 ++ [.lst []])).bind fun _ st2 => lcEnd k st1 st2
def mYes : MT := fun _ st => .ok true st
abbrev W0 : WX := fun _ _ _ _ => False
section
variable {c : Ctx} {w w1 : Wd} {n : Nat} {σa : Slots} {st st1 : Store} {σ : L2.St} {H : Hp} {W : WX}
theorem Rel.unset (r : Rel c w σa st σ H) (i : Nat) : Rel c w (σa.set i none) st (σ.set i none) H :=
  ⟨r.rs, by rw [List.length_set, List.length_set]; exact r.len, fun j a h => by
    by_cases e : i = j
    · subst e
      by_cases hl : i < σa.length
      · rw [List.getElem?_set_self hl] at h; cases h
      · rw [List.getElem?_eq_none (by rw [List.length_set]; omega)] at h; cases h
    · rw [List.getElem?_set_ne e] at h
      obtain ⟨v, h1, h2⟩ := r.sl j a h
      exact ⟨v, by rw [List.getElem?_set_ne e]; exact h1, h2⟩⟩
theorem Rel.wipe (r : Rel c w σa st σ H) : ∀ vs : List Nat, Rel c w (wipeA σa vs) st (L2.wipe σ vs) H
  | [] => r
  | v :: vs => (r.wipe vs).unset v
theorem pt1_ok (j : Nat) : PtOk c [j] (pt1 j) (gName j) := by
  intro w σa σb st σ H x v Q rl rx e q
  cases e
  refine q _ (rl.set rx) ?_
  show (((σ.set j none).set j (some v)).set j none) = σ.set j none
  rw [List.set_set, List.set_set]
theorem pt2_ok (i j : Nat) (hij : i ≠ j) : PtOk c [i, j] (pt2 i j) (gTup c.K 2 (gCons (gName i) (gCons (gName j) gNil))) := by
  intro w σa σb st σ H x v Q rl rx e q
  unfold pt2 at e
  split at e
  · rename_i a b hv
    cases e
    obtain ⟨p, us, rfl, h, pr⟩ := viewT_ok rl.rs rx hv
    obtain ⟨u1, u2, rfl, r1, r2⟩ := pr2 pr.pair
    refine ⟨p, _, rfl, h, rfl, _, _, rfl, _, _, rfl, rfl, ?_⟩
    refine q _ ((rl.set (a := .d a) r1).set (a := .d b) r2) ?_
    show (((((σ.set j none).set i none).set i (some u1)).set j (some u2)).set j none).set i none = (σ.set j none).set i none
    rw [List.set_set, List.set_set, List.set_comm (some u1) none hij, List.set_set, List.set_set]
  · cases e
theorem PTs.imp {X : Cx} {ifs : List Expr} {t t' : TT} (h : PTs X ifs t) (i : ∀ σ H Q, t' σ H Q → t σ H Q) : PTs X ifs t' := ⟨fun pins s σ H Q I q => h.run pins s σ H Q I (i σ H Q q)⟩
theorem ts_nil {X : Cx} : PTs X [] (tT c W mYes) := PTs.imp pts_nil fun _ _ _ ⟨_, _, _, rl, p⟩ => p.here rl rfl
theorem ts_one {X : Cx} {e : Expr} {t : MT} (h : PT X e (tT c W t)) : PTs X [e] (tT c W t) := pts_one h
theorem bind_need {α β γ : Type} {R : Wd → Nat → β → α → Prop} {Q : β → Hp → Prop} {p : Prop} {r : Res γ} {k : γ → Store → Res α} (h : Post c w n σa σ R W Q ((need p r).bind k)) : p ∧ Post c w n σa σ R W Q (r.bind k) := by
  unfold need at h
  by_cases q : p
  · rw [if_pos q] at h; exact ⟨q, h⟩
  · rw [if_neg q] at h; exact h.elim
theorem entail_lc {k : Bool} {vs : List Nat} {pt : Pt} {g : TG} {it : MI} {t : MT} {f : ME} (hp : PtOk c vs pt g) (σ : L2.St) (H : Hp) (Q : VK) : tM c W (mLc k vs pt it t f) σ H Q → tLc (tMI c W it) g (tT c W0 t) (tM c W0 f) vs σ H Q := fun ⟨w, σa, st, rl, p⟩ =>
  ⟨w, σa, st, rl, p.bind fun J wk st1 w1 H1 e1 rl1 hk p1 D hD => by
    let wD := w1.cell st1.length D
    have rlD : Rel c wD σa (st1 ++ [.lst []]) σ (upd H1 D (.lst [])) := rl1.push (o := .lst []) hD ⟨rl1.rs.same.free hD, [], upd_same, .nil⟩
    have extD : Ext w1 st1.length wD (st1.length + 1) := w1.cell_ext st1.length D
    have lenD : (st1 ++ [Cell.lst []]).length = st1.length + 1 := by rw [List.length_append]; rfl
    have atD : ∀ {w' : Wd} {n' : Nat}, Ext wD (st1.length + 1) w' n' → w'.E st1.length = D := fun e => (e.cells _ (Nat.lt_succ_self _)).trans (w1.cell_at _ _)
    have p2 := p1
    refine ⟨fun i m H' => ∃ w' st', m = wk.items.length - i ∧ i ≤ wk.items.length ∧ Ext wD (st1.length + 1) w' st'.length ∧ Rel c w' σa st' σ H' ∧ Post c w1 st1.length σa σ (RA c) W Q ((lcA pt t f st1.length wk.ok (wipeA σa vs) (wk.items.drop i) st').bind fun _ st2 => lcEnd k st1 st2),
      ⟨_, wD, _, rfl, Nat.zero_le _, by rw [lenD]; exact Ext.refl _ _, rlD, p2⟩, ?_⟩
    rintro i m H2 ⟨w2, st2, rfl, hi, e2, rl2, p2⟩
    by_cases hlt : i < wk.items.length
    · have hx : wk.items[i]? = some wk.items[i] := List.getElem?_eq_getElem hlt
      rw [List.drop_eq_getElem_cons hlt, lcA] at p2
      obtain ⟨ok, p2⟩ := bind_need p2
      obtain ⟨go, yl⟩ := (hk w2 st2 H2 (extD.trans e2) rl2.rs ok).2 i _ hx
      refine .inr ⟨go, fun H' => ∃ w' st', Ext wD (st1.length + 1) w' st'.length ∧ Rel c w' σa st' σ H' ∧ Post c w1 st1.length σa σ (RA c) W Q ((lcA pt t f st1.length wk.ok (wipeA σa vs) (wk.items.drop (i + 1)) st').bind fun _ st2 => lcEnd k st1 st2),
        fun H' ⟨w', st', q⟩ => ⟨wk.items.length - (i + 1), by omega, w', st', rfl, hlt, q⟩, fun v H3 y => ?_⟩
      obtain ⟨w3, e3, rl3, ra⟩ := yl v H3 y σa σ rl2
      split at p2
      · exact p2.elim
      · rename_i σ1 hpt
        refine hp w3 σa σ1 st2 σ H3 _ v _ (rl3.wipe vs) ra hpt fun σ' rl4 hw => ⟨hw, w3, σ1, st2, rl4, ?_⟩
        cases ht : t σ1 st2 with
        | no => rw [ht] at p2; exact p2.elim
        | ex _ _ => rw [ht] at p2; exact p2.elim
        | ok b st3 =>
          rw [ht] at p2
          intro b' w4 H4 e4 rl5 hb
          subst hb
          have rl5b : Rel c w4 σa st3 σ H4 := rl3.of e4 rl5.rs
          cases b' with
          | false => exact iteF ⟨w4, st3, (e2.trans e3).trans e4, rl5b, p2⟩
          | true =>
            refine iteT ⟨w4, σ1, st3, rl5, ?_⟩
            have p2 : Post c w1 st1.length σa σ (RA c) W Q (((noEx (f σ1 st3)).bind fun y st2 => match st2[st1.length]? with
        | some (.lst acc) => ifc (acc.length < SZ) (lcA pt t f st1.length wk.ok (wipeA σa vs) (wk.items.drop (i + 1)) (st2.set st1.length (.lst (acc ++ [y])))) .no
        | _ => .no).bind fun _ st2 => lcEnd k st1 st2) := p2
            cases hf : f σ1 st3 with
            | no => rw [hf] at p2; exact p2.elim
            | ex _ _ => rw [hf] at p2; exact p2.elim
            | ok y st4 =>
              rw [hf] at p2
              intro u w5 H5 e5 rl6 ru
              have p2 : Post c w1 st1.length σa σ (RA c) W Q ((match st4[st1.length]? with
        | some (.lst acc) => ifc (acc.length < SZ) (lcA pt t f st1.length wk.ok (wipeA σa vs) (wk.items.drop (i + 1)) (st4.set st1.length (.lst (acc ++ [y])))) .no
        | _ => .no).bind fun _ st2 => lcEnd k st1 st2) := p2
              have ex := ((e2.trans e3).trans e4).trans e5
              have rl6b : Rel c w5 σa st4 σ H5 := rl5b.of e5 rl6.rs
              split at p2
              · rename_i acc hacc
                unfold ifc at p2
                split at p2
                · rename_i hl
                  obtain ⟨g, us, eu, pr⟩ := rl6.rs.cell _ _ hacc
                  have rw5 := rl6b.write (y := .lst (acc ++ [y])) (o := .lst (us ++ [u])) hacc g ⟨g, _, upd_same, paired_append pr (.cons ru .nil)⟩
                  rw [atD ex] at eu rw5
                  exact ⟨us, eu, by rw [pr.length]; exact Nat.lt_of_lt_of_le hl (by decide), w5, _, by rw [List.length_set]; exact ex, rw5, p2⟩
                · exact p2.elim
              · exact p2.elim
    · have e : i = wk.items.length := by omega
      subst e
      rw [List.drop_length, lcA] at p2
      obtain ⟨ok, p2⟩ := bind_need p2
      refine .inl ⟨(hk w2 st2 H2 (extD.trans e2) rl2.rs ok).1, ?_⟩
      have p2 : Post c w1 st1.length σa σ (RA c) W Q (lcEnd k st1 st2) := p2
      unfold lcEnd at p2
      split at p2
      · rename_i acc hacc
        have hD2 := atD e2
        cases k with
        | true => exact p2 _ _ _ (extD.trans e2) rl2 ⟨RelS.lt hacc, by rw [hD2]⟩
        | false =>
          simp only [Bool.false_eq_true, if_false] at p2
          split at p2
          · rename_i ds hds
            obtain ⟨tr, p2⟩ := p2.need
            obtain ⟨g, us, eu, pr⟩ := rl2.rs.cell _ _ hacc
            rw [allD_eq hds] at pr
            have fr := rl2.freeze (d := .list ds) hacc g eu ⟨_, us, rfl, upd_same, (ras_of_d pr).same (same_upd g)⟩
            rw [hD2] at fr eu g
            have tr2 : Trunc st1 (st2.set st1.length (.fz (.list ds))) := ⟨by rw [List.length_set]; exact tr.1, fun i hi => by rw [List.getElem?_set_ne (Nat.ne_of_gt hi)]; exact tr.2 i hi⟩
            have rs := rl1.rs.trunc fr.rs tr2
            rw [List.take_set_of_le (Nat.le_refl _)] at rs
            have ext3 : Ext w1 st1.length (w2.put D (.lst us)) (st2.take st1.length).length := ⟨(extD.trans e2).same.trans (same_upd g), (extD.trans e2).cells, by rw [take_len tr]; exact Nat.le_refl _⟩
            exact p2 _ _ _ ext3 (rl1.of ext3 rs) ⟨D, us, rfl, upd_same, (ras_of_d pr).same (same_upd g)⟩
          · exact p2.elim
      · exact p2.elim⟩
end
section
variable {X : Cx} {c : Ctx} {W : WX} {elt tg iter e : Expr} {ifs : List Expr} {scope : Scope} {own : List (Str × Nat)} {pos : Pos} {pt : Pt} {g : TG} {it : MI} {t : MT} {f : ME}
theorem e_lc (k : Bool) (hp : PtOk c (own.map (·.2)) pt g) (hc : X.calm = true) (hN : X.N.Nodup) (hi : PI X tg iter (tMI c W it)) (ok : BlkOk X.N X.env.scope scope own)
    (hg : ∀ (s : Shared) (H : Hp) (C : Addr) (cl : List (Str × Addr)) (fp : List Addr), PG (X.blk s H scope (compEnvC scope cl C X.env) fp) tg g) (ht : ∀ (s : Shared) (H : Hp) (C : Addr) (cl : List (Str × Addr)) (fp : List Addr), PTs (X.blk s H scope (compEnvC scope cl C X.env) fp) ifs (tT c W0 t))
    (he : ∀ (s : Shared) (H : Hp) (C : Addr) (cl : List (Str × Addr)) (fp : List Addr), PE (X.blk s H scope (compEnvC scope cl C X.env) fp) elt (tM c W0 f)) (hs : ∀ x, foldedSetIterable iter X.env x = pure x := by intro _; rfl) :
    PE X (.ListComp elt [⟨tg, iter, ifs, 0⟩] scope pos) (tM c W (mLc k (own.map (·.2)) pt it t f)) := pe_imp (pe_lc hc hN hi ok hg ht he hs) (entail_lc hp)
/-- name = [..] -/
theorem s_setLc (k : Bool) {i : Nat} {y : Str} {py : Pos} {spos : Pos} (hp : PtOk c (own.map (·.2)) pt g) (hc : X.calm = true) (hN : X.N.Nodup) (hy : X.N[i]? = some y) (hyl : X.env.scope.names.lookup y = some .local)
    (hsw : swapsWith (.ListComp elt [⟨tg, iter, ifs, 0⟩] scope pos) (some (.Name y py)) spos.line X.env = pure true) (hi : PI X tg iter (tMI c W it)) (ok : BlkOk X.N X.env.scope scope own)
    (hg : ∀ (s : Shared) (H : Hp) (C : Addr) (cl : List (Str × Addr)) (fp : List Addr), PG (X.blk s H scope (compEnvC scope cl C X.env) fp) tg g) (ht : ∀ (s : Shared) (H : Hp) (C : Addr) (cl : List (Str × Addr)) (fp : List Addr), PTs (X.blk s H scope (compEnvC scope cl C X.env) fp) ifs (tT c W0 t))
    (he : ∀ (s : Shared) (H : Hp) (C : Addr) (cl : List (Str × Addr)) (fp : List Addr), PE (X.blk s H scope (compEnvC scope cl C X.env) fp) elt (tM c W0 f)) (hs : ∀ x, foldedSetIterable iter X.env x = pure x := by intro _; rfl) :
    PS X (.Assign [.Name y py] (.ListComp elt [⟨tg, iter, ifs, 0⟩] scope pos) spos) (tMS c W (mSet i (mLc k (own.map (·.2)) pt it t f))) :=
  ps_imp (ps_setLc hc hN hy hyl hsw hi ok hg ht he hs) fun D σ H ⟨w, σa, st, rl, p⟩ => entail_lc hp σ H _ ⟨w, σa, st, rl, PostO.lift p fun _ _ _ _ _ _ rl1 r p1 => p1.nxt (rl1.set r)⟩
end
end Am
/-! ### Am: constants of the module -/
namespace Am
open PySem PySem.Spec PyProof.Rows L2
section
variable {X : Cx} {c : Ctx} {W : WX} {x : Str} {pos : Pos}
theorem e_glob {v : V} {d : D} (h : Rw.Glob c.mg x v) (hd : ∀ G, DR c G d v := by exact fun _ => rfl) (hgl : Gl X x := by rfl) (F : Fits X c := by exact ⟨rfl, rfl⟩) (hdb : (x == ("__debug__" : Str)) = false := by decide) : PE X (.Name x pos) (tM c W (mC d)) := by
  obtain ⟨u, hm, r⟩ := h
  exact e_c (pe_glob hgl (by rw [F.mg]; exact hm) r hdb) hd
theorem flats_of {G : Hp} : ∀ {ds : List D}, ds.all flatD = true → DRs c G ds (ds.map dV)
  | [], _ => rfl
  | d :: ds, h => by
    rw [List.all_cons, Bool.and_eq_true] at h
    refine ⟨dV d, _, rfl, ?_, flats_of h.2⟩
    cases d <;> first | exact rfl | exact nomatch h.1
theorem e_globT {ds : List D} (h : Rw.GlobT c.K c.mg x (ds.map dV)) (hf : ds.all flatD = true) (hgl : Gl X x := by rfl) (F : Fits X c := by exact ⟨rfl, rfl⟩) (hdb : (x == ("__debug__" : Str)) = false := by decide) : PE X (.Name x pos) (tM c W (mC (.kt ds))) := by
  obtain ⟨a, hm, o, its, n, h1, h2, h3, h4, h5⟩ := h
  exact ⟨fun pins s σ H Q I ⟨w, σa, st, rl, p⟩ => ld_glob I hgl (by rw [F.mg]; exact hm) ⟨.ref a, H, I, rfl, p.here rl ⟨a, _, rfl, .inr ⟨o, its, n, h1, h2, h3, h4, h5⟩, flats_of hf⟩⟩ hdb⟩
theorem e_fn {f : Addr} (h : c.mg x = some (.ref f)) (hgl : Gl X x := by rfl) (F : Fits X c := by exact ⟨rfl, rfl⟩) (hdb : (x == ("__debug__" : Str)) = false := by decide) : PE X (.Name x pos) (tM c W (mC (.fn x))) :=
  ⟨fun pins s σ H Q I ⟨w, σa, st, rl, p⟩ => ld_glob I hgl (by rw [F.mg]; exact h) ⟨.ref f, H, I, rfl, p.here rl ⟨f, h, rfl⟩⟩ hdb⟩
theorem mt_index' {K : PySem.W.Frag} (h : X.K = K) : MtR X "list.index" (rIndex K) := by rw [← h]; exact mt_index
end
end Am
/-! ### Am: reckoning with machines -/
namespace Am
open PySem PySem.Spec PyProof.Rows L2
section
variable {α β γ : Type} {σ : Slots} {st : Store} {g : MG} {b : MS} {ok : Store → Prop}
theorem bind_ok (a : α) (st : Store) (k : α → Store → Res β) : (Res.ok a st).bind k = k a st := rfl
theorem bind_ex (x : Exn) (st : Store) (k : α → Store → Res β) : (Res.ex x st).bind k = .ex x st := rfl
theorem lift_ok (a : α) (st : Store) (σ : Slots) (k : α → Store → Out) : lift (Res.ok a st) σ k = k a st := rfl
theorem lift_ex (x : Exn) (st : Store) (σ : Slots) (k : α → Store → Out) : lift (Res.ex x st) σ k = .ex x σ st := rfl
theorem need_true (r : Res α) : need True r = r := need_pos trivial
theorem needO_true (o : Out) : needO True o = o := needO_pos trivial
/-! what comes behind stays folded -/
def seqO (o : Out) (k : MS) : Out := match o with
  | .nx σ1 st1 => k σ1 st1
  | o => o
theorem mSeq_ap (m k : MS) (σ : Slots) (st : Store) : mSeq m k σ st = seqO (m σ st) k := by
  unfold mSeq seqO
  cases m σ st <;> rfl
theorem seqO_nx (σ : Slots) (st : Store) (k : MS) : seqO (.nx σ st) k = k σ st := rfl
theorem seqO_rt (a : A) (st : Store) (k : MS) : seqO (.rt a st) k = .rt a st := rfl
theorem seqO_bk (σ : Slots) (st : Store) (k : MS) : seqO (.bk σ st) k = .bk σ st := rfl
theorem seqO_ct (σ : Slots) (st : Store) (k : MS) : seqO (.ct σ st) k = .ct σ st := rfl
theorem seqO_ex (x : Exn) (σ : Slots) (st : Store) (k : MS) : seqO (.ex x σ st) k = .ex x σ st := rfl
def ifO (r : Res Bool) (m k : MS) (σ : Slots) : Out := lift r σ fun b st1 => if b then m σ st1 else k σ st1
theorem mIf_ap (t : MT) (m k : MS) (σ : Slots) (st : Store) : mIf t m k σ st = ifO (t σ st) m k σ := rfl
theorem ifO_t (st : Store) (m k : MS) (σ : Slots) : ifO (.ok true st) m k σ = m σ st := rfl
theorem ifO_f (st : Store) (m k : MS) (σ : Slots) : ifO (.ok false st) m k σ = k σ st := rfl
theorem ifO_ex (x : Exn) (st : Store) (m k : MS) (σ : Slots) : ifO (.ex x st) m k σ = .ex x σ st := rfl
theorem ifO_pos {p : Prop} [Decidable p] (h : p) (st : Store) (m k : MS) (σ : Slots) : ifO (.ok (decide p) st) m k σ = m σ st := by rw [decide_eq_true h]; rfl
theorem ifO_neg {p : Prop} [Decidable p] (h : ¬ p) (st : Store) (m k : MS) (σ : Slots) : ifO (.ok (decide p) st) m k σ = k σ st := by rw [decide_eq_false h]; rfl
def binR (r : Res A) (g : A → A → Store → Res A) (fb : ME) (σ : Slots) : Res A := r.bind fun x st1 => (fb σ st1).bind fun y st2 => g x y st2
def bin2 (r : Res A) (g : A → A → Store → Res A) (x : A) : Res A := r.bind fun y st2 => g x y st2
theorem mBin_ap (g : A → A → Store → Res A) (fa fb : ME) (σ : Slots) (st : Store) : mBin g fa fb σ st = binR (fa σ st) g fb σ := rfl
theorem binR_ok (g : A → A → Store → Res A) (fb : ME) (x : A) (σ : Slots) (st : Store) : binR (.ok x st) g fb σ = bin2 (fb σ st) g x := rfl
theorem bin2_ok (g : A → A → Store → Res A) (x y : A) (st : Store) : bin2 (.ok y st) g x = g x y st := rfl
def consR (r : Res A) (fr : MA) (σ : Slots) : Res (List A) := r.bind fun x st1 => (fr σ st1).bind fun xs st2 => .ok (x :: xs) st2
def cons2 (r : Res (List A)) (x : A) : Res (List A) := r.bind fun xs st2 => .ok (x :: xs) st2
theorem mCons_ap (fa : ME) (fr : MA) (σ : Slots) (st : Store) : mCons fa fr σ st = consR (fa σ st) fr σ := rfl
theorem consR_ok (fr : MA) (x : A) (σ : Slots) (st : Store) : consR (.ok x st) fr σ = cons2 (fr σ st) x := rfl
theorem cons2_ok (x : A) (xs : List A) (st : Store) : cons2 (.ok xs st) x = .ok (x :: xs) st := rfl
def tstR (r : Res A) : Res Bool := r.bind fun a st1 => match a with
  | .d (.bl b) => .ok b st1
  | _ => .no
theorem mTst_ap (f : ME) (σ : Slots) (st : Store) : mTst f σ st = tstR (f σ st) := by
  unfold mTst tstR
  congr 1
theorem tstR_ok (b : Bool) (st : Store) : tstR (.ok (.d (.bl b)) st) = .ok b st := rfl
def setO (r : Res A) (i : Nat) (σ : Slots) : Out := lift r σ fun a st1 => .nx (σ.set i (some a)) st1
theorem mSet_ap (i : Nat) (f : ME) (σ : Slots) (st : Store) : mSet i f σ st = setO (f σ st) i σ := rfl
theorem setO_ok (a : A) (i : Nat) (σ : Slots) (st : Store) : setO (.ok a st) i σ = .nx (σ.set i (some a)) st := rfl
theorem setO_ex (x : Exn) (i : Nat) (σ : Slots) (st : Store) : setO (.ex x st) i σ = .ex x σ st := rfl
def retO (r : Res A) (σ : Slots) : Out := lift r σ fun a st1 => .rt a st1
theorem mRet_ap (f : ME) (σ : Slots) (st : Store) : mRet f σ st = retO (f σ st) σ := rfl
theorem retO_ok (a : A) (σ : Slots) (st : Store) : retO (.ok a st) σ = .rt a st := rfl
theorem retO_ex (x : Exn) (σ : Slots) (st : Store) : retO (.ex x st) σ = .ex x σ st := rfl
def doO (r : Res A) (σ : Slots) : Out := lift r σ fun _ st1 => .nx σ st1
theorem mDo_ap (f : ME) (σ : Slots) (st : Store) : mDo f σ st = doO (f σ st) σ := rfl
theorem doO_ok (a : A) (σ : Slots) (st : Store) : doO (.ok a st) σ = .nx σ st := rfl
theorem doO_ex (x : Exn) (σ : Slots) (st : Store) : doO (.ex x st) σ = .ex x σ st := rfl
theorem mList_ap (k : Bool) (fr : MA) (σ : Slots) (st : Store) : mList k fr σ st = (fr σ st).bind (mkL k) := rfl
theorem mTup_ap (fr : MA) (σ : Slots) (st : Store) : mTup fr σ st = (fr σ st).bind mkT := rfl
theorem mCallB_ap (g : GC) (fs : MA) (σ : Slots) (st : Store) : mCallB g fs σ st = (fs σ st).bind g := rfl
theorem mCall_ap (f : MF) (fs : MA) (σ : Slots) (st : Store) : mCall f fs σ st = (fs σ st).bind f := rfl
noncomputable def slR (r : Res A) (k : Bool) (l u : MO) (σ : Slots) : Res A := r.bind fun x st1 => (l σ st1).bind fun lo st2 => (u σ st2).bind fun hi st3 => gSl k x lo hi st3
noncomputable def sl2 (r : Res (Option Int)) (k : Bool) (x : A) (u : MO) (σ : Slots) : Res A := r.bind fun lo st2 => (u σ st2).bind fun hi st3 => gSl k x lo hi st3
noncomputable def sl3 (r : Res (Option Int)) (k : Bool) (x : A) (lo : Option Int) : Res A := r.bind fun hi st3 => gSl k x lo hi st3
theorem mSl_ap (k : Bool) (f : ME) (l u : MO) (σ : Slots) (st : Store) : mSl k f l u σ st = slR (f σ st) k l u σ := rfl
theorem slR_ok (k : Bool) (x : A) (l u : MO) (σ : Slots) (st : Store) : slR (.ok x st) k l u σ = sl2 (l σ st) k x u σ := rfl
theorem sl2_ok (k : Bool) (x : A) (lo : Option Int) (u : MO) (σ : Slots) (st : Store) : sl2 (.ok lo st) k x u σ = sl3 (u σ st) k x lo := rfl
theorem sl3_ok (k : Bool) (x : A) (lo hi : Option Int) (st : Store) : sl3 (.ok hi st) k x lo = gSl k x lo hi st := rfl
def partR (r : Res A) : Res (Option Int) := r.bind fun a st1 => match a with
  | .d (.int i) => .ok (some i) st1
  | _ => .no
theorem mPart_ap (f : ME) (σ : Slots) (st : Store) : mPart f σ st = partR (f σ st) := by
  unfold mPart partR
  congr 1
theorem partR_ok (i : Int) (st : Store) : partR (.ok (.d (.int i)) st) = .ok (some i) st := rfl
def meth2 (v : Option (List A)) (g : GM) (x : A) (fs : MA) (σ : Slots) (st : Store) : Res A := match v with
  | some _ => (fs σ st).bind (g x)
  | none => .no
def methR (r : Res A) (g : GM) (fs : MA) (σ : Slots) : Res A := r.bind fun x st1 => meth2 (viewS st1 x) g x fs σ st1
theorem mMethL_ap (g : GM) (f : ME) (fs : MA) (σ : Slots) (st : Store) : mMethL g f fs σ st = methR (f σ st) g fs σ := by
  unfold mMethL methR
  congr 1
theorem methR_ok (g : GM) (x : A) (fs : MA) (σ : Slots) (st : Store) : methR (.ok x st) g fs σ = meth2 (viewS st x) g x fs σ st := rfl
theorem meth2_ok (v : List A) (g : GM) (x : A) (fs : MA) (σ : Slots) (st : Store) : meth2 (some v) g x fs σ st = (fs σ st).bind (g x) := rfl
noncomputable def forO (r : Res Walk) (g : MG) (b : MS) (σ : Slots) : Out := lift r σ fun k st1 => forA g b k.ok k.items σ st1
theorem mFor_ap (it : MI) (g : MG) (b : MS) (σ : Slots) (st : Store) : mFor it g b σ st = forO (it σ st) g b σ := rfl
theorem forO_ok (k : Walk) (g : MG) (b : MS) (σ : Slots) (st : Store) : forO (.ok k st) g b σ = forA g b k.ok k.items σ st := rfl
def augO (v : Option (Option A)) (i : Nat) (g : A → A → Store → Res A) (f : ME) (σ : Slots) (st : Store) : Out := match v with
  | some (some x) => lift (f σ st) σ fun y st1 => lift (g x y st1) σ fun z st2 => .nx (σ.set i (some z)) st2
  | _ => .no
def aug2 (r : Res A) (i : Nat) (g : A → A → Store → Res A) (x : A) (σ : Slots) : Out := lift r σ fun y st1 => lift (g x y st1) σ fun z st2 => .nx (σ.set i (some z)) st2
theorem mAug_ap (i : Nat) (g : A → A → Store → Res A) (f : ME) (σ : Slots) (st : Store) : mAug i g f σ st = augO σ[i]? i g f σ st := by
  unfold mAug augO
  rcases σ[i]? with _ | _ | _ <;> rfl
theorem augO_ok (x : A) (i : Nat) (g : A → A → Store → Res A) (f : ME) (σ : Slots) (st : Store) : augO (some (some x)) i g f σ st = aug2 (f σ st) i g x σ := rfl
theorem aug2_ok (y : A) (i : Nat) (g : A → A → Store → Res A) (x : A) (σ : Slots) (st : Store) : aug2 (.ok y st) i g x σ = setO (g x y st) i σ := rfl
noncomputable def endR (k : Nat) (st : Store) (o : Out) : Res A := match o with
  | .nx _ st1 => exitR k st (.d .non) st1
  | .rt a st1 => exitR k st a st1
  | .ex x _ st1 => need (k = 0 ∨ Trunc st st1) (.ex x (if k = 0 then st1 else st1.take st.length))
  | _ => .no
theorem mF_ap (np nn k : Nat) (m : MS) (as : List A) (st : Store) (h : as.length = np) : mF np nn k m as st = endR k st (m (as.map some ++ List.replicate (nn - as.length) none) st) := by
  unfold mF runDef endR
  rw [if_pos h] <;> (generalize m _ _ = o; cases o <;> rfl)
theorem mF_0 (nn k : Nat) (m : MS) (st : Store) : mF 0 nn k m [] st = endR k st (m ([] ++ List.replicate (nn - 0) none) st) := mF_ap _ _ _ _ _ _ rfl
theorem mF_1 (nn k : Nat) (m : MS) (a0 : A) (st : Store) : mF 1 nn k m [a0] st = endR k st (m ([some a0] ++ List.replicate (nn - 1) none) st) := mF_ap _ _ _ _ _ _ rfl
theorem mF_2 (nn k : Nat) (m : MS) (a0 a1 : A) (st : Store) : mF 2 nn k m [a0, a1] st = endR k st (m ([some a0, some a1] ++ List.replicate (nn - 2) none) st) := mF_ap _ _ _ _ _ _ rfl
theorem mF_3 (nn k : Nat) (m : MS) (a0 a1 a2 : A) (st : Store) : mF 3 nn k m [a0, a1, a2] st = endR k st (m ([some a0, some a1, some a2] ++ List.replicate (nn - 3) none) st) := mF_ap _ _ _ _ _ _ rfl
theorem mF_4 (nn k : Nat) (m : MS) (a0 a1 a2 a3 : A) (st : Store) : mF 4 nn k m [a0, a1, a2, a3] st = endR k st (m ([some a0, some a1, some a2, some a3] ++ List.replicate (nn - 4) none) st) := mF_ap _ _ _ _ _ _ rfl
theorem mF_5 (nn k : Nat) (m : MS) (a0 a1 a2 a3 a4 : A) (st : Store) : mF 5 nn k m [a0, a1, a2, a3, a4] st = endR k st (m ([some a0, some a1, some a2, some a3, some a4] ++ List.replicate (nn - 5) none) st) := mF_ap _ _ _ _ _ _ rfl
theorem mF_6 (nn k : Nat) (m : MS) (a0 a1 a2 a3 a4 a5 : A) (st : Store) : mF 6 nn k m [a0, a1, a2, a3, a4, a5] st = endR k st (m ([some a0, some a1, some a2, some a3, some a4, some a5] ++ List.replicate (nn - 6) none) st) := mF_ap _ _ _ _ _ _ rfl
theorem mF_7 (nn k : Nat) (m : MS) (a0 a1 a2 a3 a4 a5 a6 : A) (st : Store) : mF 7 nn k m [a0, a1, a2, a3, a4, a5, a6] st = endR k st (m ([some a0, some a1, some a2, some a3, some a4, some a5, some a6] ++ List.replicate (nn - 7) none) st) := mF_ap _ _ _ _ _ _ rfl
theorem mF_8 (nn k : Nat) (m : MS) (a0 a1 a2 a3 a4 a5 a6 a7 : A) (st : Store) : mF 8 nn k m [a0, a1, a2, a3, a4, a5, a6, a7] st = endR k st (m ([some a0, some a1, some a2, some a3, some a4, some a5, some a6, some a7] ++ List.replicate (nn - 8) none) st) := mF_ap _ _ _ _ _ _ rfl
theorem endR_nx (k : Nat) (st st1 : Store) (σ : Slots) : endR k st (.nx σ st1) = exitR k st (.d .non) st1 := rfl
theorem endR_rt (k : Nat) (st st1 : Store) (a : A) : endR k st (.rt a st1) = exitR k st a st1 := rfl
theorem endR_ex0 (x : Exn) (st st1 : Store) (σ : Slots) : endR 0 st (.ex x σ st1) = .ex x st1 := need_pos (.inl rfl)
def andR (r : Res Bool) (g : MT) (σ : Slots) : Res Bool := r.bind fun b st1 => if b then g σ st1 else .ok false st1
theorem mAnd_ap (f g : MT) (σ : Slots) (st : Store) : mAnd f g σ st = andR (f σ st) g σ := rfl
theorem andR_t (st : Store) (g : MT) (σ : Slots) : andR (.ok true st) g σ = g σ st := rfl
theorem andR_f (st : Store) (g : MT) (σ : Slots) : andR (.ok false st) g σ = .ok false st := rfl
def orR (r : Res Bool) (g : MT) (σ : Slots) : Res Bool := r.bind fun b st1 => if b then .ok true st1 else g σ st1
theorem mOr_ap (f g : MT) (σ : Slots) (st : Store) : mOr f g σ st = orR (f σ st) g σ := rfl
theorem orR_t (st : Store) (g : MT) (σ : Slots) : orR (.ok true st) g σ = .ok true st := rfl
theorem orR_f (st : Store) (g : MT) (σ : Slots) : orR (.ok false st) g σ = g σ st := rfl
def iteR (r : Res Bool) (f g : ME) (σ : Slots) : Res A := r.bind fun b st1 => if b then f σ st1 else g σ st1
theorem mIfE_ap (t : MT) (f g : ME) (σ : Slots) (st : Store) : mIfE t f g σ st = iteR (t σ st) f g σ := rfl
theorem iteR_t (st : Store) (f g : ME) (σ : Slots) : iteR (.ok true st) f g σ = f σ st := rfl
theorem iteR_f (st : Store) (f g : ME) (σ : Slots) : iteR (.ok false st) f g σ = g σ st := rfl
def andV (r : Res A) (g : ME) (σ : Slots) : Res A := r.bind fun a st1 => match truthA st1 a with
  | some true => g σ st1
  | some false => .ok a st1
  | none => .no
theorem andV_t (st : Store) (g : ME) (σ : Slots) : andV (.ok (.d (.bl true)) st) g σ = g σ st := rfl
theorem andV_f (st : Store) (g : ME) (σ : Slots) : andV (.ok (.d (.bl false)) st) g σ = .ok (.d (.bl false)) st := rfl
def orV (r : Res A) (g : ME) (σ : Slots) : Res A := r.bind fun a st1 => match truthA st1 a with
  | some true => .ok a st1
  | some false => g σ st1
  | none => .no
theorem orV_t (st : Store) (g : ME) (σ : Slots) : orV (.ok (.d (.bl true)) st) g σ = .ok (.d (.bl true)) st := rfl
theorem orV_f (st : Store) (g : ME) (σ : Slots) : orV (.ok (.d (.bl false)) st) g σ = g σ st := rfl
theorem mAndV_ap (f g : ME) (σ : Slots) (st : Store) : mAndV f g σ st = andV (f σ st) g σ := by
  unfold mAndV andV
  congr 1
theorem mOrV_ap (f g : ME) (σ : Slots) (st : Store) : mOrV f g σ st = orV (f σ st) g σ := by
  unfold mOrV orV
  congr 1
/-- a for loop by what holds ahead of each turn -/
theorem forA_inv {xs : List A} (I : Nat → Slots → Store → Prop) (h0 : I 0 σ st) (hok : ∀ i σ st, i ≤ xs.length → I i σ st → ok st)
    (hs : ∀ i x σ st, xs[i]? = some x → I i σ st → ∃ σ1 st1 σ2 st2, g x σ st = some (σ1, st1) ∧ (b σ1 st1 = .nx σ2 st2 ∨ b σ1 st1 = .ct σ2 st2) ∧ I (i + 1) σ2 st2) : ∃ σ' st', forA g b ok xs σ st = .nx σ' st' ∧ I xs.length σ' st' := by
  induction xs generalizing σ st I with
  | nil => exact ⟨σ, st, by rw [forA, needO_pos (hok 0 _ _ (Nat.le_refl _) h0)], h0⟩
  | cons x xs ih =>
    obtain ⟨σ1, st1, σ2, st2, e1, e2, i1⟩ := hs 0 x σ st rfl h0
    obtain ⟨σ3, st3, e3, i3⟩ := ih (fun i => I (i + 1)) i1 (fun i σ st hi h => hok (i + 1) σ st (Nat.succ_le_succ hi) h) (fun i y σ st hy h => hs (i + 1) y σ st hy h)
    refine ⟨σ3, st3, ?_, i3⟩
    rw [forA, needO_pos (hok 0 _ _ (Nat.zero_le _) h0), e1]
    rcases e2 with e2 | e2
    · simp only [e2]; exact e3
    · simp only [e2]; exact e3
theorem rangeA_get {lo s : Int} {n i : Nat} {x : A} (h : (rangeA lo n s)[i]? = some x) : i < n ∧ x = .d (.int (lo + (i : Nat) * s)) := by
  unfold rangeA at h
  rw [List.getElem?_map] at h
  obtain ⟨j, h1, h2⟩ := Option.map_eq_some_iff.mp h
  obtain ⟨hl, h3⟩ := List.getElem?_eq_some_iff.mp h1
  rw [List.length_range] at hl
  rw [List.getElem_range] at h3
  subst h3
  exact ⟨hl, h2.symm⟩
theorem rangeA_length (lo s : Int) (n : Nat) : (rangeA lo n s).length = n := by unfold rangeA; rw [List.length_map, List.length_range]
/-- .. over a range by ones -/
theorem forR_inv {lo : Int} {n : Nat} (I : Nat → Slots → Store → Prop) (h0 : I 0 σ st) (hok : ∀ i σ st, i ≤ n → I i σ st → ok st)
    (hs : ∀ i σ st, i < n → I i σ st → ∃ σ1 st1 σ2 st2, g (.d (.int (lo + (i : Nat)))) σ st = some (σ1, st1) ∧ (b σ1 st1 = .nx σ2 st2 ∨ b σ1 st1 = .ct σ2 st2) ∧ I (i + 1) σ2 st2) : ∃ σ' st', forA g b ok (rangeA lo n 1) σ st = .nx σ' st' ∧ I n σ' st' := by
  have := forA_inv (g := g) (b := b) (ok := ok) (xs := rangeA lo n 1) I h0 (fun i σ st hi h => hok i σ st (by rw [rangeA_length] at hi; exact hi) h) (fun i x σ st hx h => by
    obtain ⟨hi, rfl⟩ := rangeA_get hx
    rw [Int.mul_one]
    exact hs i σ st hi h)
  rw [rangeA_length] at this
  exact this
end
/-! ### comprehensions whose element changes nothing -/
section
variable {σ : Slots} {st : Store} {pt : Pt} {t : MT} {f : ME} {ok : Store → Prop}
theorem set_last (st : Store) (x y : Cell) : (st ++ [x]).set st.length y = st ++ [y] := by
  rw [List.set_append_right _ _ (Nat.le_refl _), Nat.sub_self]; rfl
theorem get_last (st : Store) (x : Cell) : (st ++ [x])[st.length]? = some x := by
  rw [List.getElem?_append_right (Nat.le_refl _), Nat.sub_self]; rfl
theorem lcA_map {xs : List A} (p : A → Bool) (h : A → D) (acc : List D) (hok : ∀ ds : List D, ok (st ++ [.lst (ds.map A.d)])) (hl : acc.length + xs.length ≤ SZ)
    (ht : ∀ x ∈ xs, ∀ ac : List D, ∃ σ1, pt σ x = some σ1 ∧ t σ1 (st ++ [.lst (ac.map A.d)]) = .ok (p x) (st ++ [.lst (ac.map A.d)]) ∧ (p x = true → f σ1 (st ++ [.lst (ac.map A.d)]) = .ok (.d (h x)) (st ++ [.lst (ac.map A.d)]))) :
    lcA pt t f st.length ok σ xs (st ++ [.lst (acc.map A.d)]) = .ok () (st ++ [.lst ((acc ++ (xs.filter p).map h).map A.d)]) := by
  induction xs generalizing acc with
  | nil => rw [lcA, need_pos (hok acc)]; simp
  | cons x xs ih =>
    obtain ⟨σ1, e1, e2, e3⟩ := ht x List.mem_cons_self acc
    rw [List.length_cons] at hl
    rw [lcA, need_pos (hok acc), e1]
    simp only [e2, noEx, bind_ok]
    cases hp : p x with
    | false =>
      simp only [Bool.false_eq_true, if_false]
      rw [ih acc (by omega) fun y hy => ht y (List.mem_cons_of_mem _ hy), List.filter_cons, hp]
      rfl
    | true =>
      simp only [if_true, e3 hp, noEx, bind_ok, get_last, List.length_map]
      rw [ifc_pos (by omega), set_last]
      have := ih (acc ++ [h x]) (by rw [List.length_append, List.length_singleton]; omega) fun y hy => ht y (List.mem_cons_of_mem _ hy)
      rw [List.map_append] at this
      rw [show (acc.map A.d ++ [A.d (h x)]) = acc.map A.d ++ [h x].map A.d from rfl, this, List.filter_cons, hp]
      simp
theorem trunc_app (st x : Store) : Trunc st (st ++ x) := ⟨by rw [List.length_append]; omega, fun i hi => .inl (by rw [List.getElem?_append_left hi])⟩
theorem trunc_refl (st : Store) : Trunc st st := ⟨Nat.le_refl _, fun i hi => .inl rfl⟩
theorem lcEnd_data (st : Store) (ds : List D) : lcEnd false st (st ++ [.lst (ds.map A.d)]) = .ok (.d (.list ds)) st := by
  unfold lcEnd
  rw [get_last]
  simp only [Bool.false_eq_true, if_false, allD_map]
  rw [need_pos (trunc_app st _), List.take_left']
  rfl
/-- [h x for x in xs if p x] -/
theorem mLc_map {it : MI} {vs : List Nat} {xs : List A} {st1 : Store} (p : A → Bool) (h : A → D) (hit : it σ st = .ok ⟨xs, ok⟩ st1) (hok : ∀ ds : List D, ok (st1 ++ [.lst (ds.map A.d)])) (hl : xs.length ≤ SZ)
    (ht : ∀ x ∈ xs, ∀ ac : List D, ∃ σ1, pt (wipeA σ vs) x = some σ1 ∧ t σ1 (st1 ++ [.lst (ac.map A.d)]) = .ok (p x) (st1 ++ [.lst (ac.map A.d)]) ∧ (p x = true → f σ1 (st1 ++ [.lst (ac.map A.d)]) = .ok (.d (h x)) (st1 ++ [.lst (ac.map A.d)]))) :
    mLc false vs pt it t f σ st = .ok (.d (.list ((xs.filter p).map h))) st1 := by
  unfold mLc
  rw [hit, bind_ok]
  have := lcA_map (σ := wipeA σ vs) (pt := pt) (t := t) (f := f) (ok := ok) (st := st1) p h [] hok (by simpa using hl) ht
  rw [show ([] : List D).map A.d = [] from rfl] at this
  rw [this, bind_ok, List.nil_append, lcEnd_data]
/-- .. without a test -/
theorem mLc_all {it : MI} {vs : List Nat} {xs : List A} {st1 : Store} (h : A → D) (hit : it σ st = .ok ⟨xs, ok⟩ st1) (hok : ∀ ds : List D, ok (st1 ++ [.lst (ds.map A.d)])) (hl : xs.length ≤ SZ)
    (ht : ∀ x ∈ xs, ∀ ac : List D, ∃ σ1, pt (wipeA σ vs) x = some σ1 ∧ f σ1 (st1 ++ [.lst (ac.map A.d)]) = .ok (.d (h x)) (st1 ++ [.lst (ac.map A.d)])) :
    mLc false vs pt it mYes f σ st = .ok (.d (.list (xs.map h))) st1 := by
  rw [mLc_map (fun _ => true) h hit hok hl fun x hx s => ?_, List.filter_eq_self.mpr fun _ _ => rfl]
  obtain ⟨σ1, e1, e2⟩ := ht x hx s
  exact ⟨σ1, e1, rfl, fun _ => e2⟩
/-- [h i for i in range(..)] -/
theorem mLc_range {it : MI} {j : Nat} {lo s : Int} {n : Nat} {st1 : Store} (h : Nat → D) (hit : it σ st = .ok ⟨rangeA lo n s, fun _ => True⟩ st1) (hl : n ≤ SZ)
    (ht : ∀ i < n, ∀ ac : List D, f ((wipeA σ [j]).set j (some (.d (.int (lo + (i : Nat) * s))))) (st1 ++ [.lst (ac.map A.d)]) = .ok (.d (h i)) (st1 ++ [.lst (ac.map A.d)])) :
    mLc false [j] (pt1 j) it mYes f σ st = .ok (.d (.list ((List.range n).map h))) st1 := by
  -- the element as a function of the item
  have hx : ∀ x ∈ rangeA lo n s, ∃ i < n, x = .d (.int (lo + (i : Nat) * s)) := fun x hx => by
    obtain ⟨i, hi⟩ := List.getElem?_of_mem hx
    obtain ⟨h1, h2⟩ := rangeA_get hi
    exact ⟨i, h1, h2⟩
  let hh : A → D := fun x => match f ((wipeA σ [j]).set j (some x)) (st1 ++ [.lst (([] : List D).map A.d)]) with
    | .ok (.d y) _ => y
    | _ => .non
  have e1 : ∀ i < n, hh (.d (.int (lo + (i : Nat) * s))) = h i := fun i hi => by
    show (match f ((wipeA σ [j]).set j (some (.d (.int (lo + (i : Nat) * s))))) (st1 ++ [.lst (([] : List D).map A.d)]) with | .ok (.d y) _ => y | _ => D.non) = h i
    rw [ht i hi]
  rw [mLc_all hh hit (fun _ => trivial) (by rw [rangeA_length]; exact hl) fun x hx' st => ?_]
  · congr 3
    unfold rangeA
    rw [List.map_map]
    apply List.map_congr_left
    intro i hi
    exact e1 i (List.mem_range.mp hi)
  · obtain ⟨i, hi, rfl⟩ := hx x hx'
    exact ⟨_, rfl, by rw [ht i hi, e1 i hi]⟩
end
end Am
namespace Am
open PySem PySem.Spec PyProof.Rows L2
/-! ### single steps -/
section
variable {σ : Slots} {st : Store} {x y : A}
theorem mkL_c {xs : List A} (h : xs.length ≤ SZ) : mkL true xs st = .ok (.c st.length) (st ++ [.lst xs]) := by unfold mkL; rw [ifc_pos h]; rfl
theorem mkL_d {xs : List A} {ds : List D} (hd : allD xs = some ds) (h : xs.length ≤ SZ) : mkL false xs st = .ok (.d (.list ds)) st := by unfold mkL; rw [ifc_pos h, hd]; rfl
theorem mkT_d {xs : List A} {ds : List D} (hd : allD xs = some ds) (h : xs.length ≤ SZ) : mkT xs st = .ok (.d (.tup ds)) st := by unfold mkT; rw [ifc_pos h, hd]
theorem mkL_e {xs : List A} (h : xs.length ≤ SZ) : mkL false xs st = match allD xs with | some ds => .ok (.d (.list ds)) st | none => .no := by unfold mkL; rw [ifc_pos h] <;> rfl
theorem mkT_e {xs : List A} (h : xs.length ≤ SZ) : mkT xs st = match allD xs with | some ds => .ok (.d (.tup ds)) st | none => .no := by unfold mkT; rw [ifc_pos h] <;> rfl
theorem allD_append : ∀ (xs ys : List A), allD (xs ++ ys) = (allD xs).bind fun a => (allD ys).map (a ++ ·)
  | [], ys => by rw [List.nil_append, allD, Option.bind_some]; cases allD ys <;> rfl
  | .d x :: xs, ys => by
    rw [List.cons_append, allD, allD, allD_append xs ys]
    cases allD xs with
    | none => rfl
    | some a => cases allD ys <;> rfl
  | .c _ :: _, _ => rfl
theorem allD_app {xs ys : List A} {ds es : List D} (h : allD xs = some ds) (h' : allD ys = some es) : allD (xs ++ ys) = some (ds ++ es) := by
  rw [allD_eq h, allD_eq h', ← List.map_append, allD_map]
theorem rng_ok {j : Int} (h : -(2 ^ 62) ≤ j ∧ j < 2 ^ 62) (σ : Slots) (fs : MA) (hf : fs σ st = .ok [.d (.int j)] st) : iRng1M fs σ st = .ok ⟨rangeA 0 j.toNat 1, fun _ => True⟩ st := by
  unfold iRng1M; rw [hf]; exact ifc_pos h
theorem loc_get (st : Store) (k : Nat) (L : Store) : (st ++ L)[st.length + k]? = L[k]? := by rw [List.getElem?_append_right (Nat.le_add_right _ _), Nat.add_sub_cancel_left]
theorem loc_get0 (st : Store) (L : Store) : (st ++ L)[st.length]? = L[0]? := by have := loc_get st 0 L; rwa [Nat.add_zero] at this
theorem loc_set (st : Store) (k : Nat) (L : Store) (x : Cell) : (st ++ L).set (st.length + k) x = st ++ L.set k x := by rw [List.set_append_right _ _ (Nat.le_add_right _ _), Nat.add_sub_cancel_left]
theorem loc_set0 (st : Store) (L : Store) (x : Cell) : (st ++ L).set st.length x = st ++ L.set 0 x := by have := loc_set st 0 L x; rwa [Nat.add_zero] at this
theorem loc_push (st : Store) (L : Store) (x : Cell) : st ++ L ++ [x] = st ++ (L ++ [x]) := List.append_assoc _ _ _
theorem base_get {st : Store} {k : Nat} {x : Cell} (h : st[k]? = some x) (L : Store) : (st ++ L)[k]? = some x := by rw [List.getElem?_append_left (RelS.lt h)]; exact h
theorem base_set {st : Store} {k : Nat} {x : Cell} (h : st[k]? = some x) (L : Store) (y : Cell) : (st ++ L).set k y = st.set k y ++ L := List.set_append_left _ _ (RelS.lt h)
theorem need_exit {a : A} {st L : Store} (h : ABelow st.length a) : need (Trunc st (st ++ L) ∧ ABelow st.length a) (Res.ok a ((st ++ L).take st.length)) = .ok a st := by
  rw [need_pos ⟨trunc_app _ _, h⟩, List.take_left']; rfl
theorem exitR_0 (st : Store) (a : A) (st1 : Store) : exitR 0 st a st1 = .ok a st1 := rfl
theorem exitR_2 (st : Store) (a : A) (st1 : Store) : exitR 2 st a st1 = (frz a st1).bind fun b st2 => need (Trunc st st2 ∧ ABelow st.length b) (.ok b (st2.take st.length)) := rfl
theorem exitR_3 (st : Store) (i : Nat) (st1 : Store) : exitR 3 st (.c i) st1 = (match st1[i]? with | some x => need (st.length ≤ i ∧ Trunc st st1 ∧ CBelow st.length x) (.ok (.c st.length) (st1.take st.length ++ [x])) | none => .no) := rfl
theorem exit2_d (x : D) (st L : Store) : exitR 2 st (.d x) (st ++ L) = .ok (.d x) st := by
  rw [exitR_2]
  exact need_exit (a := .d x) trivial
theorem exit2_d0 (x : D) (st : Store) : exitR 2 st (.d x) st = .ok (.d x) st := by
  have := exit2_d x st []
  rwa [List.append_nil] at this
/-- a local list, handed back -/
theorem exit2_l {L : Store} {k : Nat} {ds : List D} {xs : List A} (st : Store) (h : L[k]? = some (.lst xs)) (hd : allD xs = some ds) : exitR 2 st (.c (st.length + k)) (st ++ L) = .ok (.d (.list ds)) st := by
  have e : frz (.c (st.length + k)) (st ++ L) = .ok (.d (.list ds)) (st ++ L.set k (.fz (.list ds))) := by
    unfold frz
    simp only [loc_get, h, cellD, hd, Option.map_some, loc_set]
  rw [exitR_2, e]
  exact need_exit (a := .d _) trivial
theorem exit2_l0 {L : Store} {ds : List D} {xs : List A} (st : Store) (h : L[0]? = some (.lst xs)) (hd : allD xs = some ds) : exitR 2 st (.c st.length) (st ++ L) = .ok (.d (.list ds)) st := exit2_l (k := 0) st h hd
/-- .. as a cell of the caller's -/
theorem exit3_l {L : Store} {k : Nat} {x : Cell} (st : Store) (h : L[k]? = some x) (hb : CBelow st.length x) : exitR 3 st (.c (st.length + k)) (st ++ L) = .ok (.c st.length) (st ++ [x]) := by
  rw [exitR_3, loc_get, h]
  show need _ _ = _
  rw [need_pos ⟨Nat.le_add_right _ _, trunc_app _ _, hb⟩, List.take_left']
  rfl
theorem exit3_l0 {L : Store} {x : Cell} (st : Store) (h : L[0]? = some x) (hb : CBelow st.length x) : exitR 3 st (.c st.length) (st ++ L) = .ok (.c st.length) (st ++ [x]) := exit3_l (k := 0) st h hb
theorem cmulR (i : Int) {j : Int} (h : -(2 ^ 64) < j ∧ j < 2 ^ 64) : CMulA i j := .inl (.inr h)
theorem cmulL {i : Int} (j : Int) (h : -(2 ^ 64) < i ∧ i < 2 ^ 64) : CMulA i j := .inl (.inl h)
theorem cdivA (i : Int) {j : Int} (h : 0 < j ∧ j < 1073741824) : CDivA i j := .inl h
/-! operations at their values -/
section
variable (st : Store) (k : Bool)
theorem gAdd_i (i j : Int) : gAdd k (.d (.int i)) (.d (.int j)) st = .ok (.d (.int (i + j))) st := rfl
theorem gAdd_l (a b : List D) : gAdd k (.d (.list a)) (.d (.list b)) st = mkL k ((a ++ b).map .d) st := by
  show mkL k (a.map A.d ++ b.map A.d) st = _
  rw [List.map_append]
theorem gAdd_t (a b : List D) : gAdd k (.d (.tup a)) (.d (.tup b)) st = mkT ((a ++ b).map .d) st := rfl
theorem gAdd_cl (i : Nat) (b : List D) : gAdd k (.c i) (.d (.list b)) st = match viewL st (.c i) with | some a => mkL k (a ++ b.map .d) st | none => .no := by
  show (match viewL st (.c i), viewL st (.d (.list b)) with | some a, some b => mkL k (a ++ b) st | _, _ => .no) = _
  cases viewL st (.c i) <;> rfl
theorem gAdd_lc (i : Nat) (a : List D) : gAdd k (.d (.list a)) (.c i) st = match viewL st (.c i) with | some b => mkL k (a.map .d ++ b) st | none => .no := by
  show (match viewL st (.d (.list a)), viewL st (.c i) with | some a, some b => mkL k (a ++ b) st | _, _ => .no) = _
  cases viewL st (.c i) <;> rfl
theorem gAdd_s (a b : Str) : gAdd k (.d (.str a)) (.d (.str b)) st = need (a.length + b.length ≤ SZ) (.ok (.d (.str (a ++ b))) st) := rfl
theorem gMul_i (i j : Int) : gMul k (.d (.int i)) (.d (.int j)) st = need (CMulA i j) (.ok (.d (.int (i * j))) st) := rfl
theorem gMul_l (a : List D) (j : Int) : gMul k (.d (.list a)) (.d (.int j)) st = need (j < 2 ^ 63 ∧ -(2 ^ 63) ≤ j ∧ (a.map A.d).length * j.toNat ≤ SZ) (mkL k (List.replicate j.toNat (a.map A.d)).flatten st) := rfl
theorem viewL_l (a : List D) : viewL st (.d (.list a)) = some (a.map .d) := rfl
theorem viewL_c (i : Nat) : viewL st (.c i) = match st[i]? with | some (.lst xs) => some xs | some (.fz (.list ds)) => some (ds.map .d) | _ => none := rfl
theorem viewS_l (a : List D) : viewS st (.d (.list a)) = some (a.map .d) := rfl
theorem viewS_s (a : List D) : viewS st (.d (.scr a)) = some (a.map .d) := rfl
theorem viewS_c (i : Nat) : viewS st (.c i) = match st[i]? with | some (.lst xs) => some xs | some (.fz (.list ds)) => some (ds.map .d) | _ => none := rfl
theorem viewS_t (a : List D) : viewS st (.d (.tup a)) = none := rfl
theorem viewS_kt (a : List D) : viewS st (.d (.kt a)) = none := rfl
theorem viewS_str (a : Str) : viewS st (.d (.str a)) = none := rfl
theorem viewT_t (a : List D) : viewT (.d (.tup a)) = some a := rfl
theorem viewT_kt (a : List D) : viewT (.d (.kt a)) = some a := rfl
theorem gLen_l (a : List D) : gLen [.d (.list a)] st = .ok (.d (.int (a.length : Nat))) st := by
  show Res.ok (A.d (.int ((a.map A.d).length : Nat))) st = _
  rw [List.length_map]
theorem gLen_s (a : List D) : gLen [.d (.scr a)] st = .ok (.d (.int (a.length : Nat))) st := by
  show Res.ok (A.d (.int ((a.map A.d).length : Nat))) st = _
  rw [List.length_map]
theorem gLen_t (a : List D) : gLen [.d (.tup a)] st = .ok (.d (.int (a.length : Nat))) st := rfl
theorem gLen_kt (a : List D) : gLen [.d (.kt a)] st = .ok (.d (.int (a.length : Nat))) st := rfl
theorem gListOf_l (a : List D) : gListOf k [.d (.list a)] st = mkL k (a.map .d) st := rfl
theorem gListOf_s (a : List D) : gListOf k [.d (.scr a)] st = mkL k (a.map .d) st := rfl
theorem gListOf_t (a : List D) : gListOf k [.d (.tup a)] st = mkL k (a.map .d) st := rfl
theorem gListOf_kt (a : List D) : gListOf k [.d (.kt a)] st = mkL k (a.map .d) st := rfl
theorem gListOf_c (i : Nat) : gListOf k [.c i] st = match viewS st (.c i) with | some xs => mkL k xs st | none => .no := by
  show (match viewS st (.c i) with | some xs => mkL k xs st | none => (match viewT (.c i) with | some ds => mkL k (ds.map .d) st | none => .no)) = _
  cases viewS st (.c i) <;> rfl
theorem gTupOf_l (a : List D) : gTupOf [.d (.list a)] st = mkT (a.map .d) st := rfl
theorem gTupOf_t (a : List D) : gTupOf [.d (.tup a)] st = .ok (.d (.tup a)) st := rfl
theorem gTupOf_c (i : Nat) : gTupOf [.c i] st = match viewS st (.c i) with | some xs => mkT xs st | none => .no := rfl
theorem gIx_l (a : List D) (i : Int) : gIx (.d (.list a)) (.d (.int i)) st = match atI (a.map A.d) i with | some x => .ok x st | none => .no := rfl
theorem gIx_s (a : List D) (i : Int) : gIx (.d (.scr a)) (.d (.int i)) st = match atI (a.map A.d) i with | some x => .ok x st | none => .no := rfl
theorem gIx_t (a : List D) (i : Int) : gIx (.d (.tup a)) (.d (.int i)) st = match atI a i with | some x => .ok (.d x) st | none => .no := rfl
theorem gIx_kt (a : List D) (i : Int) : gIx (.d (.kt a)) (.d (.int i)) st = match atI a i with | some x => .ok (.d x) st | none => .no := rfl
theorem gSl_l (a : List D) (l h : Option Int) : gSl k (.d (.list a)) l h st = mkL k ((cutA a l h).map .d) st := by
  show mkL k (cutA (a.map A.d) l h) st = _
  unfold cutA
  rw [List.length_map, ← List.map_drop, ← List.map_take]
theorem gSl_t (a : List D) (l h : Option Int) : gSl k (.d (.tup a)) l h st = mkT ((cutA a l h).map .d) st := rfl
theorem gRev_l (a : List D) : gRev k (.d (.list a)) st = mkL k (a.reverse.map .d) st := by
  show mkL k (a.map A.d).reverse st = _
  rw [List.map_reverse]
/-! .. of a cell, by what it holds -/
noncomputable def lenC : Option Cell → Store → Res A
  | some (.lst xs), st => .ok (.d (.int (xs.length : Nat))) st
  | some (.dK ds), st => .ok (.d (.int (ds.length : Nat))) st
  | some (.dT ds), st => .ok (.d (.int (ds.length : Nat))) st
  | some (.fz (.list ds)), st => .ok (.d (.int (ds.length : Nat))) st
  | some (.fz (.dK ds)), st => .ok (.d (.int (ds.length : Nat))) st
  | some (.fz (.dT ds)), st => .ok (.d (.int (ds.length : Nat))) st
  | _, _ => .no
theorem gLen_c (i : Nat) : gLen [.c i] st = lenC st[i]? st := by
  show (match viewS st (.c i) with | some xs => Res.ok (A.d (.int (xs.length : Nat))) st | none => (match st[i]? with | some (.dK ds) => .ok (.d (.int (ds.length : Nat))) st | some (.dT ds) => .ok (.d (.int (ds.length : Nat))) st | some (.fz (.dK ds)) => .ok (.d (.int (ds.length : Nat))) st | some (.fz (.dT ds)) => .ok (.d (.int (ds.length : Nat))) st | _ => .no)) = _
  rw [viewS_c]
  cases st[i]? with
  | none => rfl
  | some x =>
    cases x with
    | fz d => cases d <;> first | rfl | (show Res.ok (A.d (.int ((List.map A.d _).length : Nat))) st = _; rw [List.length_map]; rfl)
    | _ => rfl
noncomputable def ixC : Option Cell → A → Store → Res A
  | some (.lst xs), .d (.int j), st => match atI xs j with | some x => .ok x st | none => .no
  | some (.dK kvs), y, st => match keyA y with
    | some k => match lookK kvs k with | some a => .ok a st | none => .no
    | none => .no
  | some (.dT kvs), y, st => match keysT y with
    | some k => match lookK kvs k with | some a => .ok a st | none => .no
    | none => .no
  | some (.fz (.list ds)), .d (.int j), st => match atI (ds.map A.d) j with | some x => .ok x st | none => .no
  | some (.fz (.dK kvs)), y, st => match keyA y with
    | some k => match lookK (kvs.map fun p => (p.1, A.d p.2)) k with | some a => .ok a st | none => .no
    | none => .no
  | some (.fz (.dT kvs)), y, st => match keysT y with
    | some k => match lookK (kvs.map fun p => (p.1, A.d p.2)) k with | some a => .ok a st | none => .no
    | none => .no
  | _, _, _ => .no
theorem gIx_c (i : Nat) (y : A) : gIx (.c i) y st = ixC st[i]? y st := by
  unfold gIx
  simp only [viewS_c, viewT, viewK, viewDT]
  cases st[i]? with
  | none => rfl
  | some x =>
    cases x with
    | lst xs => cases y with
      | c _ => rfl
      | d y => cases y <;> rfl
    | fz d => cases d <;> first | rfl | (cases y with
      | c _ => rfl
      | d y => cases y <;> rfl)
    | _ => rfl
theorem gSl_c (i : Nat) (l h : Option Int) : gSl k (.c i) l h st = match viewS st (.c i) with | some xs => mkL k (cutA xs l h) st | none => .no := by
  unfold gSl
  show (match viewS st (.c i) with | some xs => mkL k (cutA xs l h) st | none => _) = _
  cases viewS st (.c i) <;> rfl
theorem gRev_c (i : Nat) : gRev k (.c i) st = match viewS st (.c i) with | some xs => mkL k xs.reverse st | none => .no := rfl
theorem gAppend_c {i : Nat} {xs : List A} (h : st[i]? = some (.lst xs)) (y : A) (hl : xs.length < SZ) : gAppend (.c i) [y] st = .ok (.d .non) (st.set i (.lst (xs ++ [y]))) := by
  unfold gAppend
  simp only [h]
  exact ifc_pos hl
theorem gExtend_c {i : Nat} {xs ys : List A} {y : A} (h : st[i]? = some (.lst xs)) (hy : viewL st y = some ys) (hl : xs.length + ys.length ≤ SZ) : gExtend (.c i) [y] st = .ok (.d .non) (st.set i (.lst (xs ++ ys))) := by
  unfold gExtend
  simp only [h, hy]
  exact ifc_pos hl
theorem gIs_n (neg : Bool) : gIs neg (.d .non) (.d .non) st = .ok (.d (.bl (!neg))) st := rfl
theorem gIs_d {x : D} (neg : Bool) (h : x ≠ .non) : gIs neg (.d x) (.d .non) st = .ok (.d (.bl neg)) st := by
  cases x <;> first | rfl | exact absurd rfl h
theorem gIs_c (neg : Bool) (i : Nat) : gIs neg (.c i) (.d .non) st = .ok (.d (.bl neg)) st := rfl
theorem gIs_b (neg a b : Bool) : gIs neg (.d (.bl a)) (.d (.bl b)) st = .ok (.d (.bl (if neg then !decide (a = b) else decide (a = b)))) st := rfl
theorem need_d {α : Type} {p : Prop} {r : Res α} (h : p) : need p r = r := need_pos h
theorem frz_d (x : D) : frz (.d x) st = .ok (.d x) st := rfl
theorem frz_c {i : Nat} {xs : List A} (h : st[i]? = some (.lst xs)) {ds : List D} (hd : allD xs = some ds) : frz (.c i) st = .ok (.d (.list ds)) (st.set i (.fz (.list ds))) := by
  unfold frz
  simp only [h, cellD, hd, Option.map_some]
end
/-- what a turn comes to -/
def Nxt (P : Slots → Store → Prop) : Out → Prop
  | .nx σ st => P σ st
  | .ct σ st => P σ st
  | _ => False
def turn (g : MG) (b : MS) (x : A) (σ : Slots) (st : Store) : Out := match g x σ st with
  | some (σ1, st1) => b σ1 st1
  | none => .no
theorem nxt_nx (P : Slots → Store → Prop) (σ : Slots) (st : Store) : Nxt P (.nx σ st) = P σ st := rfl
theorem nxt_ct (P : Slots → Store → Prop) (σ : Slots) (st : Store) : Nxt P (.ct σ st) = P σ st := rfl
theorem turn_ex {g : MG} {b : MS} {x : A} {P : Slots → Store → Prop} (h : Nxt P (turn g b x σ st)) : ∃ σ1 st1 σ2 st2, g x σ st = some (σ1, st1) ∧ (b σ1 st1 = .nx σ2 st2 ∨ b σ1 st1 = .ct σ2 st2) ∧ P σ2 st2 := by
  unfold turn at h
  split at h
  · rename_i σ1 st1 e
    cases hb : b σ1 st1 with
    | nx σ2 st2 => rw [hb] at h; exact ⟨σ1, st1, σ2, st2, e, .inl hb, h⟩
    | ct σ2 st2 => rw [hb] at h; exact ⟨σ1, st1, σ2, st2, e, .inr hb, h⟩
    | _ => rw [hb] at h; exact h.elim
  · exact h.elim
theorem forL_nx {g : MG} {b : MS} {ok : Store → Prop} {xs : List A} {o : Out} (ho : forA g b ok xs σ st = o) (I : Nat → Slots → Store → Prop) (h0 : I 0 σ st) (hok : ∀ i σ st, i ≤ xs.length → I i σ st → ok st)
    (hs : ∀ i x σ st, xs[i]? = some x → I i σ st → Nxt (I (i + 1)) (turn g b x σ st)) : ∃ σ' st', o = .nx σ' st' ∧ I xs.length σ' st' := by
  obtain ⟨σ', st', e, h⟩ := forA_inv (g := g) (b := b) (ok := ok) (xs := xs) I h0 hok fun i x σ st hx h => turn_ex (hs i x σ st hx h)
  exact ⟨σ', st', ho.symm.trans e, h⟩
theorem forR_nx {g : MG} {b : MS} {ok : Store → Prop} {lo : Int} {n : Nat} {o : Out} (ho : forA g b ok (rangeA lo n 1) σ st = o) (I : Nat → Slots → Store → Prop) (h0 : I 0 σ st) (hok : ∀ i σ st, i ≤ n → I i σ st → ok st)
    (hs : ∀ i σ st, i < n → I i σ st → Nxt (I (i + 1)) (turn g b (.d (.int (lo + (i : Nat)))) σ st)) : ∃ σ' st', o = .nx σ' st' ∧ I n σ' st' := by
  obtain ⟨σ', st', e, h⟩ := forR_inv (g := g) (b := b) (ok := ok) (lo := lo) (n := n) I h0 hok fun i σ st hx h => turn_ex (hs i σ st hx h)
  exact ⟨σ', st', ho.symm.trans e, h⟩
end
end Am
/-! ### Am: equality of plain data -/
namespace Am
open PySem PySem.Spec PyProof.Rows L2
/-- none, whole numbers, texts, lists and tuples of such, at most n deep -/
def Pl : Nat → D → Prop
  | _, .non => True
  | _, .int _ => True
  | _, .str x => PyData.canLay0 (.str x) = true
  | n + 1, .list ds => ∀ d ∈ ds, Pl n d
  | n + 1, .tup ds => ∀ d ∈ ds, Pl n d
  | _, _ => False
theorem Pl.non (n : Nat) : Pl n .non := by cases n <;> trivial
theorem Pl.int (n : Nat) (i : Int) : Pl n (.int i) := by cases n <;> trivial
theorem Pl.str (n : Nat) {x : Str} (h : PyData.canLay0 (.str x) = true) : Pl n (.str x) := by cases n <;> exact h
theorem pls_py {n : Nat} (ih : ∀ x, Pl n x → ∃ p, D.py x = some p ∧ PyData.canLay0 p = true ∧ p.depth ≤ n) : ∀ ds : List D, (∀ d ∈ ds, Pl n d) → ∃ ps, D.pys ds = some ps ∧ PyData.canLayAll0 ps = true ∧ PyData.depthAll ps ≤ n
  | [], _ => ⟨[], rfl, rfl, Nat.zero_le _⟩
  | d :: ds, h => by
    obtain ⟨p, e1, c1, l1⟩ := ih d (h d List.mem_cons_self)
    obtain ⟨ps, e2, c2, l2⟩ := pls_py ih ds fun x hx => h x (List.mem_cons_of_mem _ hx)
    refine ⟨p :: ps, by rw [D.pys, e1, e2], by rw [PyData.canLayAll0, c1, c2]; rfl, by rw [PyData.depthAll]; omega⟩
theorem pl_py : ∀ (n : Nat) (x : D), Pl n x → ∃ p, D.py x = some p ∧ PyData.canLay0 p = true ∧ p.depth ≤ n
  | 0, x, h => by
    cases x with
    | non => exact ⟨_, by rw [D.py], rfl, Nat.le_refl _⟩
    | int i => exact ⟨_, by rw [D.py], rfl, Nat.le_refl _⟩
    | str s => exact ⟨_, by rw [D.py], h, Nat.le_refl _⟩
    | _ => exact absurd h (by unfold Pl; exact id)
  | n + 1, x, h => by
    cases x with
    | non => exact ⟨_, by rw [D.py], rfl, Nat.zero_le _⟩
    | int i => exact ⟨_, by rw [D.py], rfl, Nat.zero_le _⟩
    | str s => exact ⟨_, by rw [D.py], h, Nat.zero_le _⟩
    | list ds =>
      obtain ⟨ps, e, c, l⟩ := pls_py (pl_py n) ds h
      exact ⟨.list ps, by rw [D.py, e]; rfl, c, by rw [PyData.depth]; omega⟩
    | tup ds =>
      obtain ⟨ps, e, c, l⟩ := pls_py (pl_py n) ds h
      exact ⟨.tuple ps, by rw [D.py, e]; rfl, c, by rw [PyData.depth]; omega⟩
    | _ => exact absurd h (by unfold Pl; exact id)
theorem pys_cons {y : D} {ys : List D} {qs : List PyData} (h : D.pys (y :: ys) = some qs) : ∃ q qs', qs = q :: qs' ∧ D.py y = some q ∧ D.pys ys = some qs' := by
  rw [D.pys.eq_def] at h
  simp only at h
  split at h
  · rename_i a b
    cases h
    exact ⟨_, _, rfl, a, b⟩
  · cases h
theorem pls_eq {n : Nat} (ih : ∀ x y p q, Pl n x → Pl n y → D.py x = some p → D.py y = some q → (PyData.eqv p q = true ↔ x = y)) : ∀ (xs ys : List D) (ps qs : List PyData), (∀ d ∈ xs, Pl n d) → (∀ d ∈ ys, Pl n d) → D.pys xs = some ps → D.pys ys = some qs → (PyData.eqvAll ps qs = true ↔ xs = ys)
  | [], [], ps, qs, _, _, e1, e2 => by
    cases e1; cases e2
    exact ⟨fun _ => rfl, fun _ => rfl⟩
  | [], y :: ys, ps, qs, _, _, e1, e2 => by
    cases e1
    obtain ⟨q, qs', rfl, _, _⟩ := pys_cons e2
    exact ⟨fun h => (by cases h), fun h => (by cases h)⟩
  | x :: xs, [], ps, qs, _, _, e1, e2 => by
    cases e2
    obtain ⟨q, qs', rfl, _, _⟩ := pys_cons e1
    exact ⟨fun h => (by cases h), fun h => (by cases h)⟩
  | x :: xs, y :: ys, ps, qs, h1, h2, e1, e2 => by
    obtain ⟨p, ps', rfl, a1, a2⟩ := pys_cons e1
    obtain ⟨q, qs', rfl, b1, b2⟩ := pys_cons e2
    have i1 := ih x y p q (h1 x List.mem_cons_self) (h2 y List.mem_cons_self) a1 b1
    have i2 := pls_eq ih xs ys ps' qs' (fun d hd => h1 d (List.mem_cons_of_mem _ hd)) (fun d hd => h2 d (List.mem_cons_of_mem _ hd)) a2 b2
    rw [PyData.eqvAll, Bool.and_eq_true, i1, i2, List.cons.injEq]
theorem pl_eq : ∀ (n : Nat) (x y : D) (p q : PyData), Pl n x → Pl n y → D.py x = some p → D.py y = some q → (PyData.eqv p q = true ↔ x = y) := by
  intro n
  induction n with
  | zero =>
    intro x y p q hx hy e1 e2
    cases x with
    | non => rw [D.py] at e1; cases e1; cases y with
      | non => rw [D.py] at e2; cases e2; exact ⟨fun _ => rfl, fun _ => rfl⟩
      | int _ => rw [D.py] at e2; cases e2; exact ⟨fun h => (by cases h), fun h => (by cases h)⟩
      | str _ => rw [D.py] at e2; cases e2; exact ⟨fun h => (by cases h), fun h => (by cases h)⟩
      | _ => exact absurd hy (by unfold Pl; exact id)
    | int i => rw [D.py] at e1; cases e1; cases y with
      | non => rw [D.py] at e2; cases e2; exact ⟨fun h => (by cases h), fun h => (by cases h)⟩
      | int j => rw [D.py] at e2; cases e2; exact ⟨fun h => by rw [eq_of_beq (show (i == j) = true from h)], fun h => by cases h; exact beq_self_eq_true i⟩
      | str _ => rw [D.py] at e2; cases e2; exact ⟨fun h => (by cases h), fun h => (by cases h)⟩
      | _ => exact absurd hy (by unfold Pl; exact id)
    | str i => rw [D.py] at e1; cases e1; cases y with
      | non => rw [D.py] at e2; cases e2; exact ⟨fun h => (by cases h), fun h => (by cases h)⟩
      | str j => rw [D.py] at e2; cases e2; exact ⟨fun h => by rw [eq_of_beq (show (i == j) = true from h)], fun h => by cases h; exact beq_self_eq_true i⟩
      | int _ => rw [D.py] at e2; cases e2; exact ⟨fun h => (by cases h), fun h => (by cases h)⟩
      | _ => exact absurd hy (by unfold Pl; exact id)
    | _ => exact absurd hx (by unfold Pl; exact id)
  | succ n ih =>
    intro x y p q hx hy e1 e2
    cases x with
    | non => rw [D.py] at e1; cases e1; cases y with
      | non => rw [D.py] at e2; cases e2; exact ⟨fun _ => rfl, fun _ => rfl⟩
      | int _ => rw [D.py] at e2; cases e2; exact ⟨fun h => (by cases h), fun h => (by cases h)⟩
      | str _ => rw [D.py] at e2; cases e2; exact ⟨fun h => (by cases h), fun h => (by cases h)⟩
      | list ds => rw [D.py] at e2; obtain ⟨ps, _, rfl⟩ := Option.map_eq_some_iff.mp e2; exact ⟨fun h => (by cases h), fun h => (by cases h)⟩
      | tup ds => rw [D.py] at e2; obtain ⟨ps, _, rfl⟩ := Option.map_eq_some_iff.mp e2; exact ⟨fun h => (by cases h), fun h => (by cases h)⟩
      | _ => exact absurd hy (by unfold Pl; exact id)
    | int i => rw [D.py] at e1; cases e1; cases y with
      | non => rw [D.py] at e2; cases e2; exact ⟨fun h => (by cases h), fun h => (by cases h)⟩
      | int j => rw [D.py] at e2; cases e2; exact ⟨fun h => by rw [eq_of_beq (show (i == j) = true from h)], fun h => by cases h; exact beq_self_eq_true i⟩
      | str _ => rw [D.py] at e2; cases e2; exact ⟨fun h => (by cases h), fun h => (by cases h)⟩
      | list ds => rw [D.py] at e2; obtain ⟨ps, _, rfl⟩ := Option.map_eq_some_iff.mp e2; exact ⟨fun h => (by cases h), fun h => (by cases h)⟩
      | tup ds => rw [D.py] at e2; obtain ⟨ps, _, rfl⟩ := Option.map_eq_some_iff.mp e2; exact ⟨fun h => (by cases h), fun h => (by cases h)⟩
      | _ => exact absurd hy (by unfold Pl; exact id)
    | str i => rw [D.py] at e1; cases e1; cases y with
      | non => rw [D.py] at e2; cases e2; exact ⟨fun h => (by cases h), fun h => (by cases h)⟩
      | str j => rw [D.py] at e2; cases e2; exact ⟨fun h => by rw [eq_of_beq (show (i == j) = true from h)], fun h => by cases h; exact beq_self_eq_true i⟩
      | int _ => rw [D.py] at e2; cases e2; exact ⟨fun h => (by cases h), fun h => (by cases h)⟩
      | list ds => rw [D.py] at e2; obtain ⟨ps, _, rfl⟩ := Option.map_eq_some_iff.mp e2; exact ⟨fun h => (by cases h), fun h => (by cases h)⟩
      | tup ds => rw [D.py] at e2; obtain ⟨ps, _, rfl⟩ := Option.map_eq_some_iff.mp e2; exact ⟨fun h => (by cases h), fun h => (by cases h)⟩
      | _ => exact absurd hy (by unfold Pl; exact id)
    | list xs =>
      rw [D.py] at e1; obtain ⟨ps, a, rfl⟩ := Option.map_eq_some_iff.mp e1
      cases y with
      | non => rw [D.py] at e2; cases e2; exact ⟨fun h => (by cases h), fun h => (by cases h)⟩
      | int _ => rw [D.py] at e2; cases e2; exact ⟨fun h => (by cases h), fun h => (by cases h)⟩
      | str _ => rw [D.py] at e2; cases e2; exact ⟨fun h => (by cases h), fun h => (by cases h)⟩
      | tup ds => rw [D.py] at e2; obtain ⟨ps, _, rfl⟩ := Option.map_eq_some_iff.mp e2; exact ⟨fun h => (by cases h), fun h => (by cases h)⟩
      | list ys =>
        rw [D.py] at e2; obtain ⟨qs, b, rfl⟩ := Option.map_eq_some_iff.mp e2
        rw [D.list.injEq]
        exact pls_eq ih xs ys ps qs hx hy a b
      | _ => exact absurd hy (by unfold Pl; exact id)
    | tup xs =>
      rw [D.py] at e1; obtain ⟨ps, a, rfl⟩ := Option.map_eq_some_iff.mp e1
      cases y with
      | non => rw [D.py] at e2; cases e2; exact ⟨fun h => (by cases h), fun h => (by cases h)⟩
      | int _ => rw [D.py] at e2; cases e2; exact ⟨fun h => (by cases h), fun h => (by cases h)⟩
      | str _ => rw [D.py] at e2; cases e2; exact ⟨fun h => (by cases h), fun h => (by cases h)⟩
      | list ds => rw [D.py] at e2; obtain ⟨ps, _, rfl⟩ := Option.map_eq_some_iff.mp e2; exact ⟨fun h => (by cases h), fun h => (by cases h)⟩
      | tup ys =>
        rw [D.py] at e2; obtain ⟨qs, b, rfl⟩ := Option.map_eq_some_iff.mp e2
        rw [D.tup.injEq]
        exact pls_eq ih xs ys ps qs hx hy a b
      | _ => exact absurd hy (by unfold Pl; exact id)
    | _ => exact absurd hx (by unfold Pl; exact id)
section
variable {n : Nat} {x y : D} (st : Store)
theorem gEq_pl (hn : n ≤ 64) (hx : Pl n x) (hy : Pl n y) (neg : Bool) : ∃ b : Bool, (b = true ↔ x = y) ∧ gEq neg (.d x) (.d y) st = .ok (.d (.bl (if neg then !b else b))) st := by
  obtain ⟨p, e1, c1, l1⟩ := pl_py n x hx
  obtain ⟨q, e2, c2, l2⟩ := pl_py n y hy
  refine ⟨PyData.eqv p q, pl_eq n x y p q hx hy e1 e2, ?_⟩
  unfold gEq
  rw [show peek st (.d x) = some x from rfl, show peek st (.d y) = some y from rfl, Option.bind_some, Option.bind_some, e1, e2]
  refine need_pos ⟨?_, ?_⟩
  · unfold SeqAt.shaped
    rw [c1, decide_eq_true (Nat.le_trans l1 hn)]; rfl
  · unfold SeqAt.shaped
    rw [c2, decide_eq_true (Nat.le_trans l2 hn)]; rfl
theorem gEq_same (hx : Pl n x) (neg : Bool) (e : x = y) (hn : n ≤ 64 := by decide) : gEq neg (.d x) (.d y) st = .ok (.d (.bl (!neg))) st := by
  subst e
  obtain ⟨b, hb, e⟩ := gEq_pl st hn hx hx neg
  rw [e, hb.mpr rfl]
  cases neg <;> rfl
theorem gEq_diff (hx : Pl n x) (hy : Pl n y) (neg : Bool) (e : x ≠ y) (hn : n ≤ 64 := by decide) : gEq neg (.d x) (.d y) st = .ok (.d (.bl neg)) st := by
  obtain ⟨b, hb, e1⟩ := gEq_pl st hn hx hy neg
  rw [e1, Bool.eq_false_iff.mpr fun h => e (hb.mp h)]
  cases neg <;> rfl
theorem gEq_if (i j : Int) : gEq false (.d (.int i)) (.d (.int j)) st = .ok (.d (.bl (decide (i = j)))) st := by
  by_cases h : i = j
  · rw [gEq_same st (Pl.int 0 i) false (by rw [h]), decide_eq_true h]; rfl
  · rw [gEq_diff st (Pl.int 0 i) (Pl.int 0 j) false (fun z => h (D.int.inj z)), decide_eq_false h]
theorem gEq_it (i j : Int) : gEq true (.d (.int i)) (.d (.int j)) st = .ok (.d (.bl (decide (i ≠ j)))) st := by
  by_cases h : i = j
  · rw [gEq_same st (Pl.int 0 i) true (by rw [h]), decide_eq_false (fun z => z h)]; rfl
  · rw [gEq_diff st (Pl.int 0 i) (Pl.int 0 j) true (fun z => h (D.int.inj z)), decide_eq_true h]
theorem gEq_cd (neg : Bool) {i : Nat} {xs : List A} {ds : List D} (h : st[i]? = some (.lst xs)) (hd : allD xs = some ds) (y : D) : gEq neg (.c i) (.d y) st = gEq neg (.d (.list ds)) (.d y) st := by
  unfold gEq
  rw [show peek st (.c i) = some (.list ds) by unfold peek; simp only [h, hd, Option.map_some]]
  rfl
theorem gEq_dc (neg : Bool) {i : Nat} {xs : List A} {ds : List D} (h : st[i]? = some (.lst xs)) (hd : allD xs = some ds) (y : D) : gEq neg (.d y) (.c i) st = gEq neg (.d y) (.d (.list ds)) st := by
  unfold gEq
  rw [show peek st (.c i) = some (.list ds) by unfold peek; simp only [h, hd, Option.map_some]]
  rfl
theorem gIs_l (neg : Bool) (a : List D) : gIs neg (.d (.list a)) (.d .non) st = .ok (.d (.bl neg)) st := rfl
theorem gIs_t (neg : Bool) (a : List D) : gIs neg (.d (.tup a)) (.d .non) st = .ok (.d (.bl neg)) st := rfl
theorem gIs_i (neg : Bool) (a : Int) : gIs neg (.d (.int a)) (.d .non) st = .ok (.d (.bl neg)) st := rfl
theorem gIs_s (neg : Bool) (a : Str) : gIs neg (.d (.str a)) (.d .non) st = .ok (.d (.bl neg)) st := rfl
theorem gIs_kt (neg : Bool) (a : List D) : gIs neg (.d (.kt a)) (.d .non) st = .ok (.d (.bl neg)) st := rfl
end
section
variable {α : Type}
theorem atI_0 (x0 : α) (xs : List α) : atI (x0 :: xs) 0 = some x0 := atI_nat (j := 0) (by rfl)
theorem atI_1 (x0 x1 : α) (xs : List α) : atI (x0 :: x1 :: xs) 1 = some x1 := atI_nat (j := 1) (by rfl)
theorem atI_2 (x0 x1 x2 : α) (xs : List α) : atI (x0 :: x1 :: x2 :: xs) 2 = some x2 := atI_nat (j := 2) (by rfl)
theorem atI_3 (x0 x1 x2 x3 : α) (xs : List α) : atI (x0 :: x1 :: x2 :: x3 :: xs) 3 = some x3 := atI_nat (j := 3) (by rfl)
theorem atI_4 (x0 x1 x2 x3 x4 : α) (xs : List α) : atI (x0 :: x1 :: x2 :: x3 :: x4 :: xs) 4 = some x4 := atI_nat (j := 4) (by rfl)
theorem atI_5 (x0 x1 x2 x3 x4 x5 : α) (xs : List α) : atI (x0 :: x1 :: x2 :: x3 :: x4 :: x5 :: xs) 5 = some x5 := atI_nat (j := 5) (by rfl)
end
/-! stores into a place; turns that make cells -/
def asg2 : Option (Slots × Store) → Out
  | some (σ2, st2) => .nx σ2 st2
  | none => .no
def asgO (r : Res A) (g : MG) (σ : Slots) : Out := lift r σ fun a st1 => asg2 (g a σ st1)
theorem mAsg_ap (f : ME) (g : MG) (σ : Slots) (st : Store) : mAsg f g σ st = asgO (f σ st) g σ := by
  unfold mAsg asgO
  congr 1
theorem asgO_ok (a : A) (g : MG) (σ : Slots) (st : Store) : asgO (.ok a st) g σ = asg2 (g a σ st) := rfl
theorem asg2_some (σ : Slots) (st : Store) : asg2 (some (σ, st)) = .nx σ st := rfl
noncomputable def sub3 (o i a : A) (σ : Slots) (st : Store) : Option (Slots × Store) := match gSet o i a st with
  | some st3 => some (σ, st3)
  | none => none
noncomputable def sub2 (r : Res A) (o a : A) (σ : Slots) : Option (Slots × Store) := match r with
  | .ok i st2 => sub3 o i a σ st2
  | _ => none
noncomputable def subR (r : Res A) (fi : ME) (a : A) (σ : Slots) : Option (Slots × Store) := match r with
  | .ok o st1 => sub2 (fi σ st1) o a σ
  | _ => none
theorem kSub_ap (fo fi : ME) (a : A) (σ : Slots) (st : Store) : kSub fo fi a σ st = subR (fo σ st) fi a σ := by
  unfold kSub subR
  cases fo σ st with
  | ok o st1 =>
    show (match fi σ st1 with
      | .ok i st2 => match gSet o i a st2 with
        | some st3 => some (σ, st3)
        | none => none
      | _ => none) = sub2 (fi σ st1) o a σ
    cases fi σ st1 with
    | ok i st2 =>
      show _ = sub3 o i a σ st2
      unfold sub3
      show (match gSet o i a st2 with
        | some st3 => some (σ, st3)
        | none => none) = _
      cases gSet o i a st2 <;> rfl
    | _ => rfl
  | _ => rfl
theorem subR_ok (o : A) (st : Store) (fi : ME) (a : A) (σ : Slots) : subR (.ok o st) fi a σ = sub2 (fi σ st) o a σ := rfl
theorem sub2_ok (i : A) (st : Store) (o a : A) (σ : Slots) : sub2 (.ok i st) o a σ = sub3 o i a σ st := rfl
theorem ixN_nat {n j : Nat} (h : j < n) : ixN n (j : Int) = some j := by
  unfold ixN
  rw [if_pos (by omega), if_pos (by omega)]; simp
theorem sub3_l {k : Nat} {st : Store} {xs : List A} (h : st[k]? = some (.lst xs)) {j : Nat} (hj : j < xs.length) (a : A) (σ : Slots) : sub3 (.c k) (.d (.int (j : Nat))) a σ st = some (σ, st.set k (.lst (xs.set j a))) := by
  unfold sub3
  rw [show gSet (.c k) (.d (.int (j : Nat))) a st = some (st.set k (.lst (xs.set j a))) by
    unfold gSet
    simp only [h, ixN_nat hj]]
noncomputable def trO (st : Store) (o : Out) : Out := match o with
  | .nx σ1 st1 => needO (Trunc st st1) (.nx (σ1.map (keepA st.length)) (st1.take st.length))
  | .ct σ1 st1 => needO (Trunc st st1) (.ct (σ1.map (keepA st.length)) (st1.take st.length))
  | .bk σ1 st1 => needO (Trunc st st1) (.bk (σ1.map (keepA st.length)) (st1.take st.length))
  | o => o
theorem mTrunc_ap (m : MS) (σ : Slots) (st : Store) : mTrunc m σ st = trO st (m σ st) := by
  unfold mTrunc trO
  cases m σ st <;> rfl
theorem trO_nx (st L : Store) (σ : Slots) : trO st (.nx σ (st ++ L)) = .nx (σ.map (keepA st.length)) st := by
  show needO (Trunc st (st ++ L)) (.nx (σ.map (keepA st.length)) ((st ++ L).take st.length)) = _
  rw [needO_pos (trunc_app st L), List.take_left']
  rfl
theorem trO_ct (st L : Store) (σ : Slots) : trO st (.ct σ (st ++ L)) = .ct (σ.map (keepA st.length)) st := by
  show needO (Trunc st (st ++ L)) (.ct (σ.map (keepA st.length)) ((st ++ L).take st.length)) = _
  rw [needO_pos (trunc_app st L), List.take_left']
  rfl
theorem trO_nx0 (st : Store) (σ : Slots) : trO st (.nx σ st) = .nx (σ.map (keepA st.length)) st := by
  have := trO_nx st [] σ
  rwa [List.append_nil] at this
theorem trO_ct0 (st : Store) (σ : Slots) : trO st (.ct σ st) = .ct (σ.map (keepA st.length)) st := by
  have := trO_ct st [] σ
  rwa [List.append_nil] at this
theorem trO_rt (st st1 : Store) (a : A) : trO st (.rt a st1) = .rt a st1 := rfl
theorem trO_ex (st st1 : Store) (x : Exn) (σ : Slots) : trO st (.ex x σ st1) = .ex x σ st1 := rfl
theorem keepA_d (n : Nat) (x : D) : keepA n (some (.d x)) = some (.d x) := rfl
theorem keepA_n (n : Nat) : keepA n none = none := rfl
theorem keepA_0 (n : Nat) : keepA n (some (.c n)) = none := if_neg (Nat.lt_irrefl n)
theorem keepA_k (n k : Nat) : keepA n (some (.c (n + k))) = none := if_neg (by omega)
theorem keepA_lt {n i : Nat} (h : i < n) : keepA n (some (.c i)) = some (.c i) := if_pos h
theorem loc_len (st L : Store) : (st ++ L).length = st.length + L.length := List.length_append
/-! truth, folded -/
def truR (r : Res A) : Res Bool := r.bind fun a st1 => match truthA st1 a with
  | some b => .ok b st1
  | none => .no
theorem mTru_ap (f : ME) (σ : Slots) (st : Store) : mTru f σ st = truR (f σ st) := by
  unfold mTru truR
  congr 1
theorem truR_n (st : Store) : truR (.ok (.d .non) st) = .ok false st := rfl
theorem truR_b (b : Bool) (st : Store) : truR (.ok (.d (.bl b)) st) = .ok b st := rfl
theorem truR_i (i : Int) (st : Store) : truR (.ok (.d (.int i)) st) = .ok (i != 0) st := rfl
theorem truR_l (xs : List D) (st : Store) : truR (.ok (.d (.list xs)) st) = .ok (!xs.isEmpty) st := rfl
theorem truR_s (xs : List D) (st : Store) : truR (.ok (.d (.scr xs)) st) = .ok (!xs.isEmpty) st := rfl
theorem truR_t (xs : List D) (st : Store) : truR (.ok (.d (.tup xs)) st) = .ok (!xs.isEmpty) st := rfl
def truC (x : Option Cell) (st : Store) : Res Bool := match x with
  | some (.lst xs) => .ok (!xs.isEmpty) st
  | some (.dK xs) => .ok (!xs.isEmpty) st
  | some (.fz x) => (match truthD x with | some b => .ok b st | none => .no)
  | _ => .no
theorem truR_c (i : Nat) (st : Store) : truR (.ok (.c i) st) = truC st[i]? st := by
  cases h : st[i]? with
  | none => simp only [truR, Res.bind, truthA, truC, h]
  | some x => cases x <;> simp only [truR, Res.bind, truthA, truC, h]
theorem truC_l (xs : List A) (st : Store) : truC (some (.lst xs)) st = .ok (!xs.isEmpty) st := rfl
def notR (r : Res Bool) : Res Bool := r.bind fun b st1 => .ok (!b) st1
theorem mNot_ap (t : MT) (σ : Slots) (st : Store) : mNot t σ st = notR (t σ st) := rfl
theorem notR_ok (b : Bool) (st : Store) : notR (.ok b st) = .ok (!b) st := rfl
def notV (r : Res A) : Res A := r.bind fun a st1 => match truthA st1 a with
  | some b => .ok (.d (.bl (!b))) st1
  | none => .no
theorem mNotV_ap (f : ME) (σ : Slots) (st : Store) : mNotV f σ st = notV (f σ st) := by
  unfold mNotV notV
  congr 1
theorem notV_b (b : Bool) (st : Store) : notV (.ok (.d (.bl b)) st) = .ok (.d (.bl (!b))) st := rfl
/-! chains, folded -/
def chR (r : Res A) (g' : A → A → Store → Res A) (y : A) (fc : ME) (σ : Slots) : Res A := r.bind fun z st3 => match z with
  | .d (.bl true) => (fc σ st3).bind fun u st4 => g' y u st4
  | .d (.bl false) => .ok (.d (.bl false)) st3
  | _ => .no
def ch2 (r : Res A) (g g' : A → A → Store → Res A) (x : A) (fc : ME) (σ : Slots) : Res A := r.bind fun y st2 => chR (g x y st2) g' y fc σ
def ch1 (r : Res A) (g g' : A → A → Store → Res A) (fb fc : ME) (σ : Slots) : Res A := r.bind fun x st1 => ch2 (fb σ st1) g g' x fc σ
theorem mChain_ap (g g' : A → A → Store → Res A) (fa fb fc : ME) (σ : Slots) (st : Store) : mChain g g' fa fb fc σ st = ch1 (fa σ st) g g' fb fc σ := by
  unfold mChain ch1 ch2 chR
  congr 1
theorem ch1_ok (g g' : A → A → Store → Res A) (x : A) (fb fc : ME) (σ : Slots) (st : Store) : ch1 (.ok x st) g g' fb fc σ = ch2 (fb σ st) g g' x fc σ := rfl
theorem ch2_ok (g g' : A → A → Store → Res A) (x y : A) (fc : ME) (σ : Slots) (st : Store) : ch2 (.ok y st) g g' x fc σ = chR (g x y st) g' y fc σ := rfl
theorem chR_t (g' : A → A → Store → Res A) (y : A) (fc : ME) (σ : Slots) (st : Store) : chR (.ok (.d (.bl true)) st) g' y fc σ = bin2 (fc σ st) g' y := rfl
theorem chR_f (g' : A → A → Store → Res A) (y : A) (fc : ME) (σ : Slots) (st : Store) : chR (.ok (.d (.bl false)) st) g' y fc σ = .ok (.d (.bl false)) st := rfl
theorem chR_pos {p : Prop} [Decidable p] (h : p) (g' : A → A → Store → Res A) (y : A) (fc : ME) (σ : Slots) (st : Store) : chR (.ok (.d (.bl (decide p))) st) g' y fc σ = bin2 (fc σ st) g' y := by rw [decide_eq_true h]; rfl
theorem chR_neg {p : Prop} [Decidable p] (h : ¬ p) (g' : A → A → Store → Res A) (y : A) (fc : ME) (σ : Slots) (st : Store) : chR (.ok (.d (.bl (decide p))) st) g' y fc σ = .ok (.d (.bl false)) st := by rw [decide_eq_false h]; rfl
end Am
local macro_rules | `(tactic| walk_at "len") => `(tactic| (simp only [List.length_map, List.length_append, List.length_cons, List.length_nil, List.length_replicate, List.length_range, List.length_take, List.length_drop, List.length_reverse, List.length_set]))
local macro_rules | `(tactic| walk_at "dis") => `(tactic| first
  | assumption
  | (show (_ : Nat) ≠ _; exact Ne.symm (by assumption))
  | (show (_ : Nat) < List.length _; (simp only [List.length_set, List.length_append]); first | assumption | omega)
  | exact Am.cdivA _ (by decide)
  | (show Am.CDivA _ _; exact Am.cdivA _ ⟨by omega, by omega⟩)
  | exact Am.cmulR _ (by decide)
  | exact Am.cmulL _ (by decide)
  | exact Am.cmulR _ ⟨by omega, by omega⟩
  | exact Am.cmulL _ ⟨by omega, by omega⟩
  | (show (_ : Int) < _; first | decide | omega)
  | (show L2.CPow _ _; decide)
  | (show (_ : Nat) ≤ Am.SZ; unfold Am.SZ; (try walk_at "len"); omega)
  | (show (_ : Nat) < Am.SZ; unfold Am.SZ; (try walk_at "len"); omega)
  | (refine And.intro ?_ ?_ <;> first | omega | decide | ((walk_at "len"); omega))
  | (refine And.intro ?_ (And.intro ?_ ?_) <;> first | omega | decide | (show (_ : Nat) ≤ Am.SZ; unfold Am.SZ; (try walk_at "len"); omega))
  | exact rfl)
local macro_rules | `(tactic| walk_at "ev") => `(tactic| simp (config := { implicitDefEqProofs := false }) (disch := walk_at "dis") only [Am.mF_0, Am.mF_1, Am.mF_2, Am.mF_3, Am.mF_4, Am.mF_5, Am.mF_6, Am.mF_7, Am.mF_8, Am.endR_nx, Am.endR_rt, Am.endR_ex0, Am.mSeq_ap, Am.seqO_nx, Am.binR_ok, Am.bin2_ok, Am.consR_ok, Am.cons2_ok, Am.tstR_ok, Am.setO_ok, Am.setO_ex, Am.retO_ok, Am.retO_ex, Am.doO_ok, Am.doO_ex, Am.slR_ok, Am.sl2_ok, Am.sl3_ok, Am.partR_ok, Am.methR_ok, Am.meth2_ok, Am.forO_ok, Am.augO_ok, Am.aug2_ok, Am.seqO_rt, Am.seqO_bk, Am.seqO_ct, Am.seqO_ex, Am.ifO_t, Am.ifO_f, Am.ifO_ex, Am.andR_t, Am.andR_f, Am.orR_t, Am.orR_f, Am.iteR_t, Am.iteR_f, Am.andV_t, Am.andV_f, Am.orV_t, Am.orV_f, Am.mSet_ap, Am.mRet_ap, Am.mRetN, Am.mIf_ap, Am.mDo_ap, Am.mAsg_ap, Am.asgO_ok, Am.asg2_some, Am.mTrunc_ap, Am.trO_nx, Am.trO_nx0, Am.trO_ct, Am.trO_ct0, Am.trO_rt, Am.trO_ex, Am.keepA_d, Am.keepA_n, Am.keepA_0, Am.keepA_k, Am.mPar, Am.mSkip, Am.mCnt, Am.mBrk, Am.mFor_ap, Am.mAug_ap, Am.mAugS, Am.mVar, Am.mC, Am.mBin_ap, Am.mUn, Am.mCall_ap, Am.mCallB_ap, Am.mCons_ap, Am.mNil, Am.mList_ap, Am.mTup_ap, Am.mTst_ap, Am.mTru_ap, Am.truR_n, Am.truR_b, Am.truR_i, Am.truR_l, Am.truR_s, Am.truR_t, Am.truR_c, Am.truC_l, Am.mNot_ap, Am.notR_ok, Am.mAnd_ap, Am.mOr_ap, Am.mIfE_ap, Am.mNotV_ap, Am.notV_b, Am.mAndV_ap, Am.mOrV_ap, Am.mChain_ap, Am.ch1_ok, Am.ch2_ok, Am.chR_t, Am.chR_f, Am.mSl_ap, Am.mNoPart, Am.mPart_ap, Am.mMethL_ap, Am.mFrz, Am.mYes,
  Am.kName, Am.kTup, Am.kCons, Am.kNil, Am.kSub_ap, Am.subR_ok, Am.sub2_ok, Am.bind_ok, Am.bind_ex, Am.lift_ok, Am.lift_ex, Am.iListM, Am.iTupM, Am.iRng1M, Am.iRng2M, Am.gI0, Am.gI, Am.gNeg, Am.gInt, Am.gMin, Am.gMax,
  Am.gAdd_i, Am.gAdd_l, Am.gAdd_t, Am.gAdd_cl, Am.gAdd_lc, Am.gAdd_s, Am.gMul_i, Am.gMul_l, Am.viewL_l, Am.viewL_c, Am.viewS_l, Am.viewS_s, Am.viewS_c, Am.viewS_t, Am.viewS_kt, Am.viewS_str, Am.viewT_t, Am.viewT_kt, Am.gLen_l, Am.gLen_s, Am.gLen_t, Am.gLen_kt, Am.gLen_c, Am.lenC, Am.ixC, Am.gListOf_l, Am.gListOf_s, Am.gListOf_t, Am.gListOf_kt, Am.gListOf_c, Am.gTupOf_l, Am.gTupOf_t, Am.gTupOf_c, Am.gIx_l, Am.gIx_s, Am.gIx_t, Am.gIx_kt, Am.gIx_c, Am.gSl_l, Am.gSl_t, Am.gSl_c, Am.gRev_l, Am.gRev_c, Am.atI_0, Am.atI_1, Am.atI_2, Am.atI_3, Am.atI_4, Am.atI_5, Am.gIs_n, Am.gIs_l, Am.gIs_t, Am.gIs_i, Am.gIs_s, Am.gIs_kt, Am.gEq_if, Am.gEq_it, Am.gIs_c, Am.gIs_b, Am.frz_d, Am.gAppend, Am.gExtend, Am.gPopAt, Am.gSet, Am.gIxM,
  Am.need_pos, Am.ifc_pos, Am.needO_true, Am.truthA, Am.truthD, Am.mkL_c, Am.mkL_e, Am.mkT_e, Am.allD, Am.allD_map, Am.allD_append, Option.bind_some, List.getElem?_set_self, List.getElem?_set_ne, List.set_set, List.length_map, List.length_range, Int.toNat_natCast, Am.loc_get, Am.loc_get0, Am.loc_set, Am.loc_set0, Am.loc_push, Am.loc_len, Am.exit2_d, Am.exit2_d0, Am.exitR_0, Am.turn, Am.nxt_nx, Am.nxt_ct,
  List.length_cons, List.length_nil, List.map_cons, List.map_nil, List.cons_append, List.nil_append, List.replicate_succ, List.replicate_zero, List.getElem?_cons_zero, List.getElem?_cons_succ, List.getElem?_nil, List.set_cons_zero, List.set_cons_succ, List.append_nil, List.isEmpty_nil, List.isEmpty_cons, Nat.reduceAdd, Nat.reduceSub, Nat.add_zero, Nat.zero_add, if_pos, if_true, if_false, Bool.false_eq_true, Bool.not_true, Bool.true_and, Bool.and_true, Bool.false_and, Bool.and_false, Bool.not_false, Option.map_some, Option.map_none, decide_true, decide_false, ite_true, ite_false])
/-! ### Am: attributes of instances -/
namespace Am
open PySem PySem.Spec PyProof.Rows L2
/-- which classes are plain, and have no own attribute of the name -/
def FldT (c : Ctx) (isF : Str → Str → Bool) : Prop := ∀ (x f : Str) (C : Addr), isF x f = true → c.mg x = some (.ref C) → Cls c.K C ∧ NoAttr c.K C f
def viewI (st : Store) : A → Option (Str × List (Str × A))
  | .d (.ins x fs) => some (x, fs.map fun p => (p.1, A.d p.2))
  | .d _ => none
  | .c i => match st[i]? with
    | some (.ins x fs) => some (x, fs)
    | some (.fz (.ins x fs)) => some (x, fs.map fun p => (p.1, A.d p.2))
    | _ => none
section
variable {c : Ctx} {w : Wd} {st : Store} {H : Hp} {n : Nat}
theorem viewI_ok (rl : RelS c w st H) : ∀ {a : A} {v : V} {x : Str} {xs : List (Str × A)}, RA c w st.length v a → viewI st a = some (x, xs) → ∃ b C dx us, v = .ref b ∧ H b = some (.ins C dx us) ∧ c.mg x = some (.ref C) ∧ Paired (KD (RA c w st.length)) us xs
  | .d a, v, x, xs, r, h => by
    cases a with
    | ins y ds =>
      cases h
      obtain ⟨b, C, dx, us, rfl, e, g, p⟩ := r
      exact ⟨b, C, dx, us, rfl, rl.same _ _ e, g, kas_d p.pair⟩
    | _ => cases h
  | .c i, v, x, xs, ⟨h1, h2⟩, h => by
    have h : (match st[i]? with | some (.ins x fs) => some (x, fs) | some (.fz (.ins x fs)) => some (x, fs.map fun p => (p.1, A.d p.2)) | _ => none) = some (x, xs) := h
    split at h
    · rename_i q
      cases h
      obtain ⟨_, C, dx, us, e, g, p⟩ := rl.cell _ _ q
      exact ⟨_, C, dx, us, h2, e, g, p⟩
    · rename_i q
      cases h
      obtain ⟨⟨b, C, dx, us, e0, e, g, p⟩, _⟩ := rl.cell _ _ q
      cases e0
      exact ⟨_, C, dx, us, h2, rl.same _ _ e, g, kas_d p.pair⟩
    · cases h
theorem lookup_some {R : V → A → Prop} {f : Str} {a : A} : ∀ {us : List (Str × V)} {fs : List (Str × A)}, Paired (KD R) us fs → fs.lookup f = some a → ∃ v, us.lookup f = some v ∧ R v a
  | _, _, .nil, h => by cases h
  | (_, _) :: _, (_, _) :: _, .cons ⟨e, r⟩ t, h => by
    cases e
    rename_i k _ _ _ _
    simp only [List.lookup] at h ⊢
    cases hk : f == k with
    | true => rw [hk] at h; cases h; exact ⟨_, rfl, r⟩
    | false => rw [hk] at h; exact lookup_some t h
theorem lookup_none {R : V → A → Prop} {f : Str} : ∀ {us : List (Str × V)} {fs : List (Str × A)}, Paired (KD R) us fs → fs.lookup f = none → us.lookup f = none
  | _, _, .nil, _ => rfl
  | (_, _) :: _, (_, _) :: _, .cons ⟨e, r⟩ t, h => by
    cases e
    rename_i k _ _ _ _
    simp only [List.lookup] at h ⊢
    cases hk : f == k with
    | true => rw [hk] at h; cases h
    | false => rw [hk] at h; exact lookup_none t h
def putM (f : Str) (v : A) : List (Str × A) → List (Str × A)
  | [] => [(f, v)]
  | (g, x) :: r => if g = f then (g, v) :: r else (g, x) :: putM f v r
theorem putM_ok {R : V → A → Prop} {f : Str} {v : V} {a : A} (ra : R v a) : ∀ {us : List (Str × V)} {fs : List (Str × A)}, Paired (KD R) us fs → Paired (KD R) (putF f v us) (putM f a fs)
  | _, _, .nil => .cons ⟨rfl, ra⟩ .nil
  | (_, _) :: _, (_, _) :: _, .cons ⟨e, r⟩ t => by
    cases e
    rename_i k _ _ _ _
    unfold putF putM
    by_cases h : k = f
    · rw [if_pos h, if_pos h]; exact .cons ⟨rfl, ra⟩ t
    · rw [if_neg h, if_neg h]; exact .cons ⟨rfl, r⟩ (putM_ok ra t)
end
/-- a.f -/
def gFld (isF : Str → Str → Bool) (f : Str) : A → Store → Res A := fun a st => match viewI st a with
  | some (x, fs) => if isF x f then match fs.lookup f with
      | some v => .ok v st
      | none => .no
    else .no
  | none => .no
def mFld (isF : Str → Str → Bool) (f : Str) (fo : ME) : ME := mUn (gFld isF f) fo
/-- a.f = v -/
noncomputable def gFS (isF : Str → Str → Bool) (f : Str) : A → A → Store → Option Store := fun a v st => match a with
  | .c i => match st[i]? with
    | some (.ins x fs) => ifc (isF x f = true ∧ fs.length < 1000) (some (st.set i (.ins x (putM f v fs)))) none
    | _ => none
  | _ => none
noncomputable def mFS (isF : Str → Str → Bool) (f : Str) (fo fv : ME) : MS := fun σ st => lift (fv σ st) σ fun y st1 => lift (fo σ st1) σ fun o st2 => match gFS isF f o y st2 with
  | some st3 => .nx σ st3
  | none => .no
def clsA (st : Store) (a : A) : Option Str := (viewI st a).map (·.1)
noncomputable def mFA (isF : Str → Str → Bool) (f : Str) (g : A → A → Store → Res A) (fo fv : ME) : MS := fun σ st => lift (fo σ st) σ fun o st1 => lift (gFld isF f o st1) σ fun x st2 => lift (fv σ st2) σ fun y st3 => lift (g x y st3) σ fun z st4 => match gFS isF f o z st4 with
  | some st5 => needO (clsA st4 o = clsA st1 o) (.nx σ st5)
  | none => .no
section
variable {X : Cx} {c : Ctx} {W : WX} {e o : Expr} {fo fv : ME} {pos pos' tpos : Pos} {isF : Str → Str → Bool} {f : Str}
theorem gFld_at (T : FldT c isF) {w : Wd} {st st1 : Store} {H : Hp} (rs : RelS c w st H) {a x : A} {v : V} (ra : RA c w st.length v a) (h : gFld isF f a st = .ok x st1) :
    st1 = st ∧ ∃ b C dx us u, v = .ref b ∧ H b = some (.ins C dx us) ∧ (∃ y, clsA st a = some y ∧ c.mg y = some (.ref C)) ∧ Cls c.K C ∧ NoAttr c.K C f ∧ us.lookup f = some u ∧ RA c w st.length u x := by
  unfold gFld at h
  split at h
  · rename_i y fs hv
    split at h
    · rename_i hf
      obtain ⟨b, C, dx, us, rfl, e, g, p⟩ := viewI_ok rs ra hv
      split at h
      · rename_i z hl
        cases h
        obtain ⟨u, hu, r⟩ := lookup_some p hl
        obtain ⟨t1, t2⟩ := T y f C hf g
        exact ⟨rfl, b, C, dx, us, u, rfl, e, ⟨y, by unfold clsA; rw [hv]; rfl, g⟩, t1, t2, hu, r⟩
      · cases h
    · cases h
  · cases h
theorem gFld_ok {a : A} {st : Store} : (∃ x, gFld isF f a st = .ok x st) ∨ gFld isF f a st = .no := by
  unfold gFld
  split
  · split
    · split
      · exact .inl ⟨_, rfl⟩
      · exact .inr rfl
    · exact .inr rfl
  · exact .inr rfl
theorem e_fld (T : FldT c isF) (h : PE X e (tM c W fo)) (F : Fits X c := by exact ⟨rfl, rfl⟩) (hb : attributeBase e f X.env (eval e X.env) = eval e X.env := by rfl) : PE X (.Attribute e f pos) (tM c W (mFld isF f fo)) :=
  pe_imp (pe_fld h hb) fun σ H Q ⟨w, σa, st, rl, q⟩ => ⟨w, σa, st, rl, q.bind fun v a st1 w1 H1 _ rl1 ra p1 => by
    rcases gFld_ok (isF := isF) (f := f) (a := a) (st := st1) with ⟨x, e1⟩ | e1
    · rw [e1] at p1
      obtain ⟨_, b, C, dx, us, u, rfl, e, _, t1, t2, hu, r⟩ := gFld_at T rl1.rs ra e1
      rw [← F.K] at t1 t2
      exact ⟨b, C, dx, us, u, rfl, e, t1, t2, hu, p1.here rl1 r⟩
    · rw [e1] at p1
      exact p1.elim⟩
theorem gFS_ok (T : FldT c isF) {w : Wd} {σa : Slots} {st st' : Store} {σ : L2.St} {H : Hp} {a y : A} {va vy : V} (rl : Rel c w σa st σ H) (ra : RA c w st.length va a) (ry : RA c w st.length vy y) (h : gFS isF f a y st = some st') :
    ∃ b C dx us, va = .ref b ∧ H b = some (.ins C dx us) ∧ (∃ y, clsA st a = some y ∧ c.mg y = some (.ref C)) ∧ Cls c.K C ∧ NoAttr c.K C f ∧ us.length < 1000 ∧ st'.length = st.length ∧ Rel c w σa st' σ (upd H b (.ins C dx (putF f vy us))) := by
  unfold gFS at h
  simp only [ifc] at h
  split at h
  · split at h
    · rename_i hk
      split at h
      · rename_i hc
        cases h
        obtain ⟨g, C, dx, us, e, m, p⟩ := rl.rs.cell _ _ hk
        obtain ⟨t1, t2⟩ := T _ f C hc.1 m
        obtain ⟨_, rfl⟩ := ra
        exact ⟨_, C, dx, us, rfl, e, ⟨_, by unfold clsA viewI; simp only [hk, Option.map_some], m⟩, t1, t2, by rw [p.length]; exact hc.2, List.length_set, rl.write hk g ⟨g, C, dx, _, upd_same, m, putM_ok ry p⟩⟩
      · cases h
    · cases h
  · cases h
theorem s_fld (T : FldT c isF) (ho : PE X o (tM c W fo)) (hv : PE X e (tM c W fv)) (F : Fits X c := by exact ⟨rfl, rfl⟩) (hs : swapsWith e (some (.Attribute o f pos')) pos.line X.env = pure false := by rfl) : PS X (.Assign [.Attribute o f pos'] e pos) (tMS c W (mFS isF f fo fv)) :=
  ps_imp (ps_fld ho hv hs) fun D σ H ⟨w, σa, st, rl, q⟩ => ⟨w, σa, st, rl, PostO.lift q fun vy y st1 w1 H1 e1 rl1 ry p1 => ⟨w1, σa, st1, rl1, PostO.lift p1 fun va a st2 w2 H2 e2 rl2 ra p2 => by
    split at p2
    · rename_i st3 hg
      obtain ⟨b, C, dx, us, rfl, e, _, t1, t2, l, hl, rl3⟩ := gFS_ok T rl2 ra (ry.ext e2) hg
      rw [← F.K] at t1 t2
      exact ⟨b, C, dx, us, rfl, e, t1, t2, l, p2 _ w2 _ (by rw [hl]; exact Ext.refl _ _) rl3⟩
    · exact p2.elim⟩⟩
theorem s_fldaug (T : FldT c isF) {op : Operator} {r : R2} {gg : A → A → Store → Res A} (ho : PE X o (tM c W fo)) (hv : PE X e (tM c W fv)) (hp : InOp X op r) (hg : OpA c r gg) (F : Fits X c := by exact ⟨rfl, rfl⟩) :
    PS X (.AugAssign (.Attribute o f tpos) op e pos) (tMS c W (mFA isF f gg fo fv)) :=
  ps_imp (ps_fldaug ho hv hp) fun D σ H ⟨w, σa, st, rl, q⟩ => ⟨w, σa, st, rl, PostO.lift q fun va a st1 w1 H1 e1 rl1 ra p1 => by
    rcases gFld_ok (isF := isF) (f := f) (a := a) (st := st1) with ⟨x, h1⟩ | h1
    · rw [h1] at p1
      obtain ⟨_, b, C, dx, us, u, rfl, e, ⟨y1, hy1, m1⟩, t1, t2, hu, rx⟩ := gFld_at T rl1.rs ra h1
      rw [← F.K] at t1 t2
      refine ⟨b, C, dx, us, u, rfl, e, t1, t2, hu, w1, σa, st1, rl1, PostO.lift (show PostO c w1 st1.length W D (lift (fv σa st1) σa _) from p1) fun vy y st2 w2 H2 e2 rl2 ry p2 => hg w2 σa st2 σ H2 x y u vy W _ rl2 (rx.ext e2) ry (PostO.lift p2 fun vz z st3 w3 H3 e3 rl3 rz p3 => ?_)⟩
      split at p3
      · rename_i st4 hs
        obtain ⟨hc, p3⟩ := PostO.need p3
        obtain ⟨b', C', dx', us', eb, e', ⟨y2, hy2, m2⟩, _, _, l, hl, rl4⟩ := gFS_ok T rl3 ((ra.ext e2).ext e3) rz hs
        cases eb
        rw [hy2, hy1] at hc
        cases hc
        rw [m1] at m2
        cases m2
        exact ⟨dx', us', e', l, p3 _ w3 _ (by rw [hl]; exact Ext.refl _ _) rl4⟩
      · exact p3.elim
    · rw [h1] at p1
      exact p1.elim⟩
end
end Am
/-! ### Am: methods and constructors of own classes -/
namespace Am
open PySem PySem.Spec PyProof.Rows L2
/-- the class x has the method m, which keeps sp -/
def HasM (P : Program) (w : World) (K : PySem.W.Frag) (mg : Str → Option Value) (base : Heap) (CX : CXT) (k : Nat) (x m : Str) (ps : List Str) (sp : Sp) : Prop :=
  ∃ (C f : Addr) (fd : FuncData), mg x = some (.ref C) ∧ Cls K C ∧ Meth K C m f ∧ Binds K fd ps [] ∧ FnOk P w K mg base CX k f fd ps sp
/-- a method's text -/
def DefM (K : PySem.W.Frag) (mg : Str → Option Value) (x m qual : Str) (st : Stmt) (ps : List Str) : Prop :=
  ∃ (C f : Addr) (fd : FuncData), mg x = some (.ref C) ∧ Cls K C ∧ Meth K C m f ∧ Fun K m qual st f fd ∧ Binds K fd ps []
/-- the class x may be made -/
def MkC (K : PySem.W.Frag) (mg : Str → Option Value) (x : Str) : Prop := ∃ C, mg x = some (.ref C) ∧ PySem.W.makesIn K C = true ∧ PySem.W.keepIn K (.ref C) = true
section
variable {P : Program} {w : World} {K : PySem.W.Frag} {mg : Str → Option Value} {base : Heap} {k : Nat} {x m qual : Str} {st : Stmt} {ps N : List Str}
theorem def_hasM {b : MS} (np nn ex : Nat) (D : DefM K mg x m qual st ps) (S : FnScope N ps (defScope st)) (hp : ps.length = np) (hn : N.length = nn)
    (hbody : ∀ (f : Addr) (cdv : Value) (A : Around) (outer : List Env) (s : Shared) (H : Hp) (E : XK), Room k (A.deeper (envOfC qual (defScope st) s.heap.objs.size f cdv)) →
      Takes (cxOf (L2.CX P w) P w K mg base N qual (defScope st) f cdv A outer s H E) (fun cls d _ H => E cls d H) →
      PSs (cxOf (L2.CX P w) P w K mg base N qual (defScope st) f cdv A outer s H E) (defBody st) (tMS ⟨K, mg⟩ (fun cls d _ H => E cls d H) b)) :
    HasM P w K mg base (L2.CX P w) (k + 1) x m ps (spM ⟨K, mg⟩ (mF np nn ex b)) := by
  obtain ⟨C, f, fd, g, cl, mt, F, bd⟩ := D
  exact ⟨C, f, fd, g, cl, mt, bd, def_fn np nn ex F S hp hn (hbody f)⟩
theorem HasM.mono {CX : CXT} {sp : Sp} {j : Nat} (h : HasM P w K mg base CX j x m ps sp) (l : j ≤ k) : HasM P w K mg base CX k x m ps sp :=
  let ⟨C, f, fd, g, cl, mt, bd, F⟩ := h
  ⟨C, f, fd, g, cl, mt, bd, F.mono l⟩
end
/-- o.m(..), what is raised wished for at the caller's slots -/
def tMethT (C : Addr) (m : Str) (sp : Sp) (E : L2.St → XK) (ta : TE) (t : TA) : TE := fun σ H Q => ta σ H fun x H1 => ∃ a dx fs, x = .ref a ∧ H1 a = some (.ins C dx fs) ∧ fs.lookup m = none ∧ t σ H1 fun vs H2 => sp (x :: vs) H2 Q (E σ)
def tMakeT (C : Addr) (sp : Sp) (E : L2.St → XK) (t : TA) : TE := fun σ H Q => t σ H fun vs H1 => ∀ x dx, H1 x = none → H1 dx = none → dx ≠ x → sp (.ref x :: vs) (upd (upd H1 dx (.own x)) x (.ins C dx [])) (fun v H2 => v = .non ∧ Q (.ref x) H2) (E σ)
section
variable {X : Cx} {CX : CXT} {k : Nat} {g C : Addr} {fd : FuncData} {ps : List Str} {sp : Sp} {E : L2.St → XK} {x m : Str} {p pos apos : Pos} {e o : Expr} {es : List Expr} {ta : TE} {t : TA}
theorem pe_methT {pl : Sem Bool} (ho : PE X o ta) (cl : Cls X.K C) (mt : Meth X.K C m g) (F : FnOk X.prog X.w X.K X.mg X.base CX k g fd ps sp) (room : Room k X.A) (bd : Binds X.K fd ps []) (px : ∀ σ, PassesAt CX X σ (E σ)) (has : PA X (e :: es) t)
    (star : starEach (e :: es) X.env = (false, eval e X.env) :: starEach es X.env := by rfl) (back : (backTo pos (starEach es X.env)).any (·.1) = false := by rfl)
    (text : eval (.Call (.Attribute o m apos) (e :: es) [] pos) X.env = (do
      let y ← eval o X.env
      standAt apos.atName
      let (f, first) ← holding [y] (getMethod y m pl)
      callWith pos f first (backTo pos (starEach (e :: es) X.env)) (backToKw pos (keywordEach [] X.env))) := by rfl) : PE X (.Call (.Attribute o m apos) (e :: es) [] pos) (tMethT C m sp E ta t) where
  run := fun pins s σ H Q I h => PySem.W.methodCall_KW (pl := pl) (thn (ho.run pins s σ H _ I h) fun ov s1 ⟨v, H1, I1, rv, a, dx, fs, hv, ha, hl, q⟩ => by
    cases hv
    have z : ov = Value.ref a := rv
    cases z
    refine getmeth_ok I1 ha cl mt hl ?_
    refine PySem.W.callWith_K (first := [.ref a]) (h₀ := X.base) I.ok.mod.kin mt.kp ?_ star back
    exact thn (has.run pos pins s1 σ H1 _ I1 q) fun us s2 ⟨vs, H2, I2, r, q2⟩ => ⟨I2.kIn, run_fnSD (us := Value.ref a :: us) (vs := V.ref a :: vs) (dvs := []) F room bd .nil (px σ) I2 (.cons rfl r) (by rw [List.append_nil]; exact q2)⟩) text
theorem pe_methT0 {pl : Sem Bool} (ho : PE X o ta) (cl : Cls X.K C) (mt : Meth X.K C m g) (F : FnOk X.prog X.w X.K X.mg X.base CX k g fd ps sp) (room : Room k X.A) (bd : Binds X.K fd ps []) (px : ∀ σ, PassesAt CX X σ (E σ))
    (text : eval (.Call (.Attribute o m apos) [] [] pos) X.env = (do
      let y ← eval o X.env
      standAt apos.atName
      let (f, first) ← holding [y] (getMethod y m pl)
      callWith pos f first (backTo pos (starEach [] X.env)) (backToKw pos (keywordEach [] X.env))) := by rfl) : PE X (.Call (.Attribute o m apos) [] [] pos) (tMethT C m sp E ta tNil) where
  run := fun pins s σ H Q I h => PySem.W.methodCall_KW (pl := pl) (thn (ho.run pins s σ H _ I h) fun ov s1 ⟨v, H1, I1, rv, a, dx, fs, hv, ha, hl, q⟩ => by
    cases hv
    have z : ov = Value.ref a := rv
    cases z
    refine getmeth_ok I1 ha cl mt hl ?_
    exact PySem.W.callWith_K0 (first := [.ref a]) I1.kIn mt.kp (run_fnSD (us := [Value.ref a]) (vs := [V.ref a]) (dvs := []) F room bd .nil (px σ) I1 (.cons rfl .nil) q)) text
theorem run_makeT {pins : List (Addr × Obj)} {σ : L2.St} {H : Hp} {s : Shared} {Q : VK} {us : List Value} {vs : List V} (M : Mk X.K C g) (F : FnOk X.prog X.w X.K X.mg X.base CX k g fd ps sp) (room : Room (k + 1) X.A) (bd : Binds X.K fd ps []) (px : PassesAt CX X σ (E σ)) (I : Inv X pins σ H s) (r : Vals vs us)
    (h : ∀ y dx, H y = none → H dx = none → dx ≠ y → sp (.ref y :: vs) (upd (upd H dx (.own y)) y (.ins C dx [])) (fun v H2 => v = .non ∧ Q (.ref y) H2) (E σ)) : wpAny (model X.prog X.w) X.A (call (.ref C) us) (EP X pins σ Q) X.xe s := by
  obtain ⟨n, hn⟩ : ∃ n, n = s.heap.objs.size := ⟨_, rfl⟩
  have q := h (n + 1) n (I.hok.fresh (by rw [hn]; exact Nat.le_succ _)) (I.hok.fresh (by rw [hn]; exact Nat.le_refl _)) (Nat.ne_of_lt (Nat.lt_succ_self n))
  subst hn
  have J := Inv.made (C := C) I
  have rr : Vals (V.ref (s.heap.objs.size + 1) :: vs) (Value.ref (s.heap.objs.size + 1) :: us) := .cons rfl r
  have len : (Value.ref (s.heap.objs.size + 1) :: us ++ []).length = ps.length := by rw [List.append_nil, ← rr.length]; exact F.len _ _ _ _ q
  have bnd := bd _ (Value.ref (s.heap.objs.size + 1) :: us) J.kIn len
  rw [List.append_nil] at bnd
  refine wpAny_call (make_map (f := g) I.kIn M.makes M.init (beq_iff_eq.mp M.fn) (codeAny_mono (F.run _ X.stack _ _ ⟨Value.ref (s.heap.objs.size + 1) :: us, []⟩ _ _ _ (E σ) (room.make C us []) (J.env0.make C us []) bnd rr q) fun z s2 hz => ?_))
  cases z with
  | ok fl =>
    cases fl with
    | ret u =>
      obtain ⟨v, H2, J2, rv, ev, q2⟩ := J.after hz
      subst ev
      exact ⟨rv, ⟨V.ref (s.heap.objs.size + 1), H2, J2, rfl, q2⟩⟩
    | _ => exact hz.elim
  | error z => exact px pins _ _ z s2 J hz
theorem pe_makeT (M : Mk X.K C g) (F : FnOk X.prog X.w X.K X.mg X.base CX k g fd ps sp) (room : Room (k + 1) X.A) (gl : Gl X x) (at_ : X.mg x = some (.ref C)) (bd : Binds X.K fd ps []) (px : ∀ σ, PassesAt CX X σ (E σ)) (has : PA X (e :: es) t) (nd : (x == ("__debug__" : Str)) = false := by decide)
    (star : starEach (e :: es) X.env = (false, eval e X.env) :: starEach es X.env := by rfl) (back : (backTo pos (starEach es X.env)).any (·.1) = false := by rfl) : PE X (.Call (.Name x p) (e :: es) [] pos) (tMakeT C sp E t) where
  run := fun pins s σ H Q I h => wpAny_Call_Name_kw (ld_glob I gl at_ (PySem.W.callWith_K (h₀ := X.base) I.ok.mod.kin M.kp (thn (has.run pos pins s σ H _ I h) fun us s1 ⟨vs, H1, J, r, q⟩ => ⟨J.kIn, run_makeT M F room bd (px σ) J r q⟩) star back) nd)
theorem pe_makeT0 (M : Mk X.K C g) (F : FnOk X.prog X.w X.K X.mg X.base CX k g fd ps sp) (room : Room (k + 1) X.A) (gl : Gl X x) (at_ : X.mg x = some (.ref C)) (bd : Binds X.K fd ps []) (px : ∀ σ, PassesAt CX X σ (E σ)) (nd : (x == ("__debug__" : Str)) = false := by decide) : PE X (.Call (.Name x p) [] [] pos) (tMakeT C sp E tNil) where
  run := fun pins s σ H Q I h => wpAny_Call_Name_kw (ld_glob I gl at_ (PySem.W.callWith_K0 I.kIn M.kp (run_makeT (us := []) M F room bd (px σ) I .nil h)) nd)
end
/-! as machines -/
def mMeth (x m : Str) (f : MF) (fo : ME) (fs : MA) : ME := fun σ st => (fo σ st).bind fun a st1 => match viewI st1 a with
  | some (y, flds) => if y = x ∧ flds.lookup m = none then (fs σ st1).bind fun as st2 => f (a :: as) st2 else .no
  | none => .no
/-- C(..): a new cell, then __init__ on it -/
def mMake (x : Str) (f : MF) (fs : MA) : ME := fun σ st => (fs σ st).bind fun as st1 => (f (.c st1.length :: as) (st1 ++ [.ins x []])).bind fun r st2 => match r with
  | .d .non => .ok (.c st1.length) st2
  | _ => .no
section
variable {X : Cx} {c : Ctx} {W : WX} {e o : Expr} {es : List Expr} {fo : ME} {fs : MA} {f : MF} {k : Nat} {ps : List Str} {x m : Str} {p pos apos : Pos}
theorem Post.of_run {w : Wd} {σa : Slots} {st : Store} {σ : L2.St} {H : Hp} {Q : VK} (rl : Rel c w σa st σ H) : ∀ {r : Res A}, Post c w st.length σa σ (RA c) W Q r → EndR c w st.length Q (fun cls d H => W cls d σ H) r
  | .ok _ _, p => fun v w1 H1 e rs ra => p v w1 H1 e (rl.of e rs) ra
  | .ex _ _, p => fun cls d w1 H1 e rs rx => p cls d w1 H1 e (rl.of e rs) rx
  | .no, p => p
theorem entail_meth {C : Addr} (hx : c.mg x = some (.ref C)) (σ : L2.St) (H : Hp) (Q : VK) : tM c W (mMeth x m f fo fs) σ H Q → tMethT C m (spM c f) (fun σ cls d H => W cls d σ H) (tM c W fo) (tMA c W fs) σ H Q := fun ⟨w, σa, st, rl, q⟩ =>
  ⟨w, σa, st, rl, q.bind fun v a st1 w1 H1 _ rl1 ra p1 => by
    split at p1
    · rename_i y flds hv
      split at p1
      · rename_i hc
        obtain ⟨b, C', dx, us, rfl, e, g, pr⟩ := viewI_ok rl1.rs ra hv
        rw [hc.1, hx] at g
        cases g
        refine ⟨b, dx, us, rfl, e, lookup_none pr hc.2, w1, σa, st1, rl1, p1.bind fun vs as st2 w2 H2 e2 rl2 rs p2 => ?_⟩
        have z := Post.of_run rl2 p2
        exact ⟨w2, st2, a :: as, rl2.rs, .cons (ra.ext e2) rs, z⟩
      · exact p1.elim
    · exact p1.elim⟩
theorem entail_meth0 {C : Addr} (hx : c.mg x = some (.ref C)) (σ : L2.St) (H : Hp) (Q : VK) : tM c W (mMeth x m f fo mNil) σ H Q → tMethT C m (spM c f) (fun σ cls d H => W cls d σ H) (tM c W fo) tNil σ H Q := fun ⟨w, σa, st, rl, q⟩ =>
  ⟨w, σa, st, rl, q.bind fun v a st1 w1 H1 _ rl1 ra p1 => by
    split at p1
    · rename_i y flds hv
      split at p1
      · rename_i hc
        obtain ⟨b, C', dx, us, rfl, e, g, pr⟩ := viewI_ok rl1.rs ra hv
        rw [hc.1, hx] at g
        cases g
        have p1 : Post c w1 st1.length σa σ (RA c) W Q (f [a] st1) := p1
        have z := Post.of_run rl1 p1
        exact ⟨b, dx, us, rfl, e, lookup_none pr hc.2, w1, st1, [a], rl1.rs, .cons ra .nil, z⟩
      · exact p1.elim
    · exact p1.elim⟩
theorem e_meth {pl : Sem Bool} (h : HasM X.prog X.w X.K X.mg X.base (L2.CX X.prog X.w) k x m ps (spM c f)) (hr : Room k X.A) (tk : Takes X W) (ho : PE X o (tM c W fo)) (ha : PA X (e :: es) (tMA c W fs)) (F : Fits X c := by exact ⟨rfl, rfl⟩)
    (star : starEach (e :: es) X.env = (false, eval e X.env) :: starEach es X.env := by rfl) (back : (backTo pos (starEach es X.env)).any (·.1) = false := by rfl)
    (text : eval (.Call (.Attribute o m apos) (e :: es) [] pos) X.env = (do
      let y ← eval o X.env
      standAt apos.atName
      let (f, first) ← holding [y] (getMethod y m pl)
      callWith pos f first (backTo pos (starEach (e :: es) X.env)) (backToKw pos (keywordEach [] X.env))) := by rfl) : PE X (.Call (.Attribute o m apos) (e :: es) [] pos) (tM c W (mMeth x m f fo fs)) := by
  obtain ⟨C, g, fd, hx, cl, mt, bd, ok⟩ := h
  exact pe_imp (pe_methT (pl := pl) ho cl mt ok hr bd (fun σ => passAtM tk σ) ha star back text) (entail_meth (F.mg ▸ hx))
theorem e_meth0 {pl : Sem Bool} (h : HasM X.prog X.w X.K X.mg X.base (L2.CX X.prog X.w) k x m ps (spM c f)) (hr : Room k X.A) (tk : Takes X W) (ho : PE X o (tM c W fo)) (F : Fits X c := by exact ⟨rfl, rfl⟩)
    (text : eval (.Call (.Attribute o m apos) [] [] pos) X.env = (do
      let y ← eval o X.env
      standAt apos.atName
      let (f, first) ← holding [y] (getMethod y m pl)
      callWith pos f first (backTo pos (starEach [] X.env)) (backToKw pos (keywordEach [] X.env))) := by rfl) : PE X (.Call (.Attribute o m apos) [] [] pos) (tM c W (mMeth x m f fo mNil)) := by
  obtain ⟨C, g, fd, hx, cl, mt, bd, ok⟩ := h
  exact pe_imp (pe_methT0 (pl := pl) ho cl mt ok hr bd (fun σ => passAtM tk σ) text) (entail_meth0 (F.mg ▸ hx))
theorem entail_make {C : Addr} (hx : c.mg x = some (.ref C)) (σ : L2.St) (H : Hp) (Q : VK) : tM c W (mMake x f fs) σ H Q → tMakeT C (spM c f) (fun σ cls d H => W cls d σ H) (tMA c W fs) σ H Q := fun ⟨w, σa, st, rl, q⟩ =>
  ⟨w, σa, st, rl, q.bind fun vs as st1 w1 H1 _ rl1 rs p1 y dx hy hd ne => by
    have g1 : w1.G dx = none := rl1.rs.same.free hd
    have r2 := rl1.rs.put (o := HO.own y) hd
    have hy2 : upd H1 dx (.own y) y = none := by rw [upd_ne (Ne.symm ne)]; exact hy
    have r3 := r2.push (o := HO.ins C dx []) (x := .ins x []) hy2 ⟨r2.same.free hy2, C, dx, [], upd_same, hx, .nil⟩
    have ex : Ext w1 st1.length (((w1.put dx (.own y)).cell st1.length y)) (st1.length + 1) := (w1.put_ext g1).trans (Wd.cell_ext _ _ _)
    refine ⟨_, st1 ++ [.ins x []], .c st1.length :: as, r3, ?_, ?_⟩
    · rw [List.length_append]
      exact .cons ⟨Nat.lt_succ_self _, by rw [Wd.cell_at]⟩ (ras_ext ex rs)
    · cases hf : f (.c st1.length :: as) (st1 ++ [.ins x []]) with
      | ok a st2 =>
        rw [hf] at p1
        intro v w2 H2 e2 rs2 ra
        rw [List.length_append] at e2
        have last : RA c w2 st2.length (.ref y) (.c st1.length) := RA.ext (n := st1.length + 1) e2 (v := .ref y) (a := .c st1.length) ⟨Nat.lt_succ_self _, by rw [Wd.cell_at]⟩
        cases a with
        | c _ => exact p1.elim
        | d a => cases a with
          | non => exact ⟨ra, p1 (.ref y) w2 H2 (ex.trans e2) (rl1.of (ex.trans e2) rs2) last⟩
          | _ => exact p1.elim
      | ex z st2 =>
        rw [hf] at p1
        intro cls d w2 H2 e2 rs2 rx
        rw [List.length_append] at e2
        exact p1 cls d w2 H2 (ex.trans e2) (rl1.of (ex.trans e2) rs2) rx
      | no => rw [hf] at p1; exact p1.elim⟩
theorem e_make (h : HasM X.prog X.w X.K X.mg X.base (L2.CX X.prog X.w) k x "__init__" ps (spM c f)) (M : MkC X.K X.mg x) (hr : Room (k + 1) X.A) (tk : Takes X W) (ha : PA X (e :: es) (tMA c W fs)) (F : Fits X c := by exact ⟨rfl, rfl⟩) (hgl : Gl X x := by rfl) (nd : (x == ("__debug__" : Str)) = false := by decide)
    (star : starEach (e :: es) X.env = (false, eval e X.env) :: starEach es X.env := by rfl) (back : (backTo pos (starEach es X.env)).any (·.1) = false := by rfl) : PE X (.Call (.Name x p) (e :: es) [] pos) (tM c W (mMake x f fs)) := by
  obtain ⟨C, g, fd, hx, cl, mt, bd, ok⟩ := h
  obtain ⟨C', hx', mk, kp⟩ := M
  rw [hx] at hx'
  cases hx'
  exact pe_imp (pe_makeT ⟨mk, mt.at_, mt.fn, kp⟩ ok hr hgl hx bd (fun σ => passAtM tk σ) ha nd star back) (entail_make (F.mg ▸ hx))
end
end Am
/-! ### Am: exceptions of own classes -/
namespace Am
open PySem PySem.Spec PyProof.Rows L2
/-- an own class of exceptions without an __init__ of its own -/
def ExcT (K : PySem.W.Frag) (mg : Str → Option Value) (x : Str) : Prop :=
  ∃ (C : Addr) (bmB : List Value) (B newId initId : String), ExcBaseFacts B newId initId bmB ∧ PySem.W.excIn K C bmB newId = true ∧ mg x = some (.ref C) ∧ PySem.W.keepIn K (.ref C) = true ∧
    PySem.W.subIn K (.ref C) (.type "BaseException") = some true ∧ PySem.W.typeIn K (.ref C) = some (.type "type")
/-- which clauses catch which classes -/
def ExmT (c : Ctx) (isE : Str → Str → Option Bool) : Prop := ∀ (x y : Str) (b : Bool) (C D : Addr), isE x y = some b → c.mg x = some (.ref C) → c.mg y = some (.ref D) → PySem.W.exmOne c.K (.ref C) (.ref D) = some b
def mRaise (x : Str) : MS := fun σ st => .ex ⟨x, none⟩ σ st
def noExO : Out → Out
  | .ex _ _ _ => .no
  | o => o
def mTry (isE : Str → Str → Option Bool) (y : Str) (b s : MS) : MS := fun σ st => match b σ st with
  | .ex x σ1 st1 => match isE x.cls y with
    | some true => noExO (s σ1 st1)
    | some false => .ex x σ1 st1
    | none => .no
  | o => o
section
variable {X : Cx} {c : Ctx} {W : WX}
theorem PostO.noEx {w : Wd} {n : Nat} {D : Ends} : ∀ {o : Out}, PostO c w n W D (noExO o) → PostO c w n (fun _ _ _ _ => False) D o
  | .nx _ _, h => h
  | .bk _ _, h => h
  | .ct _ _, h => h
  | .rt _ _, h => h
  | .ex _ _ _, h => h.elim
  | .no, h => h
theorem s_raise {x m : Str} {j : Nat} {p p2 pos pos' : Pos} (T : ExcT X.K X.mg x) (hc : X.calm = true) (tk : Takes X W) (F : Fits X c := by exact ⟨rfl, rfl⟩) (hg : Gl X x := by rfl) (nd : (x == ("__debug__" : Str)) = false := by decide) :
    PS X (.Raise (some (.Call (.Name x p) [.Constant (.str m) j p2] [] pos)) none pos') (tMS c W (mRaise x)) := by
  obtain ⟨C, bmB, B, n1, n2, f1, f2, g, kp, s1, s2⟩ := T
  exact ps_imp (ps_raise hc tk (pmk_own f1 f2 g kp (raises_own s1 s2) hg nd)) fun D σ H ⟨w, σa, st, rl, q⟩ => q σ (.ref C) none w H (Ext.refl _ _) rl ⟨C, rfl, F.mg ▸ g, rfl⟩
theorem s_try {isE : Str → Str → Option Bool} {y : Str} {Dy : Addr} {body suite : List Stmt} {b₀ : Stmt} {np pos pos' : Pos} {b s : MS} (T : ExmT c isE) (hY : X.mg y = some (.ref Dy)) (tk : Takes X W)
    (hb : ∀ (W : WX) (pn : List (Addr × Obj)) (xe : Value → Shared → Prop), Takes (X.tr pn xe) W → PassesOwn (model X.prog X.w) X.A X.env xe → PSs (X.tr pn xe) body (tMS c W b))
    (hsu : ∀ (a : Addr) (oe : Obj) (pn : List (Addr × Obj)), PSs (X.suite a ((a, oe) :: pn)) (b₀ :: suite) (tMS c (fun _ _ _ _ => False) s)) (F : Fits X c := by exact ⟨rfl, rfl⟩)
    (hs : X.stack = X.env :: X.outer := by rfl) (hf : X.env.frame = some X.env.locals := by rfl) (hg : Gl X y := by rfl) (nd : (y == ("__debug__" : Str)) = false := by decide) :
    PS X (.Try body [.ExceptHandler (some (.Name y np)) none (b₀ :: suite) pos'] [] [] pos) (tMS c W (mTry isE y b s)) :=
  ps_imp (ps_try_only (Wout := W) hs hf ⟨hg, nd, .inl hY⟩ tk hb (fun a oe _ _ pn _ _ => hsu a oe pn)) fun D σ H ⟨w, σa, st, rl, q⟩ => by
    refine ⟨w, σa, st, rl, ?_⟩
    unfold mTry at q
    cases ho : b σa st with
    | ex x σ1 st1 =>
      rw [ho] at q
      have q : PostO c w st.length W D (match isE x.cls y with | some true => noExO (s σ1 st1) | some false => .ex x σ1 st1 | none => .no) := q
      intro σ2 cls d w2 H2 e r rx
      obtain ⟨C, rfl, mC, rd⟩ := rx
      cases hi : isE x.cls y with
      | none => rw [hi] at q; exact q.elim
      | some bb =>
        rw [hi] at q
        have t := T x.cls y bb C Dy hi mC (F.mg ▸ hY)
        refine ⟨bb, by rw [F.K]; exact t, fun hb a _ => ?_, fun hb => ?_⟩
        · subst hb
          exact ⟨w2, σ1, st1, r, PostO.noEx (PostO.mono e q)⟩
        · subst hb
          exact q σ2 (.ref C) d w2 H2 e r ⟨C, rfl, mC, rd⟩
    | nx _ _ => rw [ho] at q; exact q
    | rt _ _ => rw [ho] at q; exact q
    | bk _ _ => rw [ho] at q; exact q
    | ct _ _ => rw [ho] at q; exact q
    | no => rw [ho] at q; exact q
theorem s_tryC {isE : Str → Str → Option Bool} {y : Str} {body suite : List Stmt} {b₀ : Stmt} {np pos pos' : Pos} {b s : MS} (T : ExmT c isE) (hx : ExcT X.K X.mg y) (tk : Takes X W)
    (hb : ∀ (W : WX) (pn : List (Addr × Obj)) (xe : Value → Shared → Prop), Takes (X.tr pn xe) W → PassesOwn (model X.prog X.w) X.A X.env xe → PSs (X.tr pn xe) body (tMS c W b))
    (hsu : ∀ (a : Addr) (oe : Obj) (pn : List (Addr × Obj)), PSs (X.suite a ((a, oe) :: pn)) (b₀ :: suite) (tMS c (fun _ _ _ _ => False) s)) (F : Fits X c := by exact ⟨rfl, rfl⟩)
    (hs : X.stack = X.env :: X.outer := by rfl) (hf : X.env.frame = some X.env.locals := by rfl) (hg : Gl X y := by rfl) (nd : (y == ("__debug__" : Str)) = false := by decide) :
    PS X (.Try body [.ExceptHandler (some (.Name y np)) none (b₀ :: suite) pos'] [] [] pos) (tMS c W (mTry isE y b s)) := by
  obtain ⟨C, _, _, _, _, _, _, g, _⟩ := hx
  exact s_try T g tk hb hsu F hs hf hg nd
end
end Am
namespace Am
open PySem PySem.Spec PyProof.Rows L2
theorem exm_any {K : PySem.W.Frag} {S D : Addr} {b : Bool} (h1 : PySem.W.subIn K (.ref D) (.type "BaseException") = some true) (h2 : PySem.W.isClsIn K D = true) (h3 : PySem.W.typeIn K (.ref D) = some (.type "type")) (h4 : PySem.W.subIn K (.ref S) (.ref D) = some b) :
    PySem.W.exmOne K (.ref S) (.ref D) = some b := by
  have e1 : (PySem.W.subIn K (.ref D) (.type "BaseException") == some true) = true := by rw [h1] <;> rfl
  have h2' : (PySem.W.clsIn K D).isSome = true := h2
  have e2 : ((PySem.W.clsIn K D).isSome && PySem.W.typeIn K (.ref D) == some (.type "type")) = true := by rw [h2', h3] <;> rfl
  show (if (PySem.W.subIn K (.ref D) (.type "BaseException") == some true) = true then (if ((PySem.W.clsIn K D).isSome && PySem.W.typeIn K (.ref D) == some (.type "type")) = true then PySem.W.subIn K (.ref S) (.ref D) else none) else none) = some b
  rw [if_pos e1, if_pos e2, h4]
section
variable {K : PySem.W.Frag} {mg : Str → Option Value}
theorem fldT_mk (tab : List (Str × Str)) (h : ∀ p ∈ tab, ∀ C, mg p.1 = some (.ref C) → Cls K C ∧ NoAttr K C p.2) : FldT ⟨K, mg⟩ (fun x f => tab.contains (x, f)) := fun x f C hf hm =>
  h (x, f) (List.contains_iff_mem.mp hf) C hm
theorem fld_nil : ∀ p ∈ ([] : List (Str × Str)), ∀ C, mg p.1 = some (.ref C) → Cls K C ∧ NoAttr K C p.2 := fun _ h => by cases h
theorem fld_cons {x f : Str} {C : Addr} {tab : List (Str × Str)} (hm : mg x = some (.ref C)) (cl : Cls K C) (n : NoAttr K C f) (h : ∀ p ∈ tab, ∀ C, mg p.1 = some (.ref C) → Cls K C ∧ NoAttr K C p.2) :
    ∀ p ∈ (x, f) :: tab, ∀ C, mg p.1 = some (.ref C) → Cls K C ∧ NoAttr K C p.2 := fun p hp D hD => by
  rcases List.mem_cons.mp hp with rfl | hp
  · rw [hm] at hD
    cases hD
    exact ⟨cl, n⟩
  · exact h p hp D hD
theorem exm_mk (tab : List ((Str × Str) × Bool)) (h : ∀ p ∈ tab, ∀ C D, mg p.1.1 = some (.ref C) → mg p.1.2 = some (.ref D) → PySem.W.exmOne K (.ref C) (.ref D) = some p.2) : ExmT ⟨K, mg⟩ (fun x y => tab.lookup (x, y)) := fun x y b C D hb hC hD => by
  have hm : ((x, y), b) ∈ tab := by
    clear h
    induction tab with
    | nil => cases hb
    | cons p tab ih =>
      obtain ⟨k, v⟩ := p
      simp only [List.lookup] at hb
      cases hk : (x, y) == k with
      | true =>
        rw [hk] at hb
        cases hb
        rw [eq_of_beq hk]
        exact List.mem_cons_self
      | false => rw [hk] at hb; exact List.mem_cons_of_mem _ (ih hb)
  exact h _ hm C D hC hD
theorem exm_nil : ∀ p ∈ ([] : List ((Str × Str) × Bool)), ∀ C D, mg p.1.1 = some (.ref C) → mg p.1.2 = some (.ref D) → PySem.W.exmOne K (.ref C) (.ref D) = some p.2 := fun _ h => by cases h
theorem exm_cons {x y : Str} {b : Bool} {S T : Addr} {tab : List ((Str × Str) × Bool)} (hx : mg x = some (.ref S)) (hy : mg y = some (.ref T)) (e : PySem.W.exmOne K (.ref S) (.ref T) = some b) (h : ∀ p ∈ tab, ∀ C D, mg p.1.1 = some (.ref C) → mg p.1.2 = some (.ref D) → PySem.W.exmOne K (.ref C) (.ref D) = some p.2) :
    ∀ p ∈ ((x, y), b) :: tab, ∀ C D, mg p.1.1 = some (.ref C) → mg p.1.2 = some (.ref D) → PySem.W.exmOne K (.ref C) (.ref D) = some p.2 := fun p hp C D hC hD => by
  rcases List.mem_cons.mp hp with rfl | hp
  · rw [hx] at hC
    rw [hy] at hD
    cases hC
    cases hD
    exact e
  · exact h p hp C D hC hD
end
end Am
/-! ### Am: reversed, zip -/
namespace Am
open PySem PySem.Spec PyProof.Rows L2
def iReversedM (fs : MA) : MI := fun σ st => (fs σ st).bind fun as st1 => match as with
  | [x] => match viewS st1 x with
    | some xs => .ok ⟨xs.reverse, fun s => viewS s x = some xs⟩ st1
    | none => .no
  | _ => .no
def zipD : List D → List D → List A
  | x :: xs, y :: ys => .d (.tup [x, y]) :: zipD xs ys
  | _, _ => []
theorem zipD_len : ∀ xs ys : List D, (zipD xs ys).length = min xs.length ys.length
  | [], _ => by rw [zipD]; simp; intros; simp_all
  | _ :: _, [] => by simp [zipD]
  | _ :: xs, _ :: ys => by rw [zipD, List.length_cons, zipD_len xs ys, List.length_cons, List.length_cons]; omega
theorem zipD_get : ∀ {xs ys : List D} {i : Nat} {a : A}, (zipD xs ys)[i]? = some a → ∃ x y, xs[i]? = some x ∧ ys[i]? = some y ∧ a = .d (.tup [x, y])
  | [], _, i, a, h => by simp [zipD] at h
  | _ :: _, [], i, a, h => by simp [zipD] at h
  | x :: xs, y :: ys, 0, a, h => by simp [zipD] at h; exact ⟨x, y, rfl, rfl, h.symm⟩
  | x :: xs, y :: ys, i + 1, a, h => by
    rw [zipD, List.getElem?_cons_succ] at h
    have z := zipD_get h
    exact z
def iZipM (fs : MA) : MI := fun σ st => (fs σ st).bind fun as st1 => match as with
  | [x, y] => match (viewS st1 x).bind allD, (viewS st1 y).bind allD with
    | some xs, some ys => .ok ⟨zipD xs ys, fun s => viewS s x = some (xs.map .d) ∧ viewS s y = some (ys.map .d)⟩ st1
    | _, _ => .no
  | _ => .no
section
variable {X : Cx} {c : Ctx} {W : WX} {tg e e2 : Expr} {fs : MA} {p pos tpos : Pos} {elts : List Expr} {kk : Nat}
theorem i_reversed (hm : c.mg "reversed" = none) (ha : PA X [e] (tMA c W fs)) (hgl : Gl X "reversed" := by rfl) (F : Fits X c := by exact ⟨rfl, rfl⟩) (hs : starEach [e] X.env = [(false, eval e X.env)] := by rfl) : PI X tg (.Call (.Name "reversed" p) [e] [] pos) (tMI c W (iReversedM fs)) :=
  pi_imp (pi_reversed hgl (F.mg ▸ hm) ha hs) fun σ H R ⟨w, σa, st, rl, q⟩ => ⟨w, σa, st, rl, q.bind fun vs as st1 w1 H1 _ rl1 rs p1 => by
    split at p1
    · rename_i x
      cases rs with
      | cons rx rn =>
        cases rn
        split at p1
        · rename_i xs hv
          obtain ⟨a, us, rfl, q, pr⟩ := viewS_ok rl1.rs rx hv
          rw [F.K]
          refine ⟨a, us, rfl, q, p1.here rl1 fun w2 st2 H2 e2 rs2 ok => ?_⟩
          obtain ⟨a', us', e', q', pr'⟩ := viewS_ok rs2 (rx.ext e2) ok
          cases e'
          have hn : us.length = xs.length := pr.length
          have hn' : us'.length = xs.length := pr'.length
          refine ⟨by show us.length ≤ xs.reverse.length; rw [List.length_reverse, hn]; exact Nat.le_refl _, fun i y hy => ?_⟩
          have hi : i < xs.length := by
            have := (List.getElem?_eq_some_iff.mp hy).1
            rwa [List.length_reverse] at this
          have hy : xs[us.length - 1 - i]? = some y := by
            rw [List.getElem?_reverse hi] at hy
            rw [hn]; exact hy
          obtain ⟨u, hu, ru⟩ := paired_get pr' hy
          refine ⟨⟨by rw [hn]; exact hi, us', u, q', hu⟩, fun v H3 ⟨e3, yv⟩ σa2 σ2 rl2 => ⟨w2, Ext.refl _ _, by rw [e3]; exact rl2, ?_⟩⟩
          have := yv us' q'
          rw [hu] at this
          cases this
          exact ru
        · exact p1.elim
    · exact p1.elim⟩
theorem i_zip (hm : c.mg "zip" = none) (ha : PA X [e, e2] (tMA c W fs)) (hgl : Gl X "zip" := by rfl) (F : Fits X c := by exact ⟨rfl, rfl⟩) (hs : starEach [e, e2] X.env = (false, eval e X.env) :: starEach [e2] X.env := by rfl) (hpl : (backTo pos (starEach [e2] X.env)).any (·.1) = false := by rfl) :
    PI X (.Tuple elts kk tpos) (.Call (.Name "zip" p) [e, e2] [] pos) (tMI c W (iZipM fs)) :=
  pi_imp (pi_zip hgl (F.mg ▸ hm) ha hs hpl) fun σ H R ⟨w, σa, st, rl, q⟩ => ⟨w, σa, st, rl, q.bind fun vs as st1 w1 H1 _ rl1 rs p1 => by
    split at p1
    · rename_i x y
      obtain ⟨vx, vy, rfl, rx, ry⟩ := pr2 rs
      split at p1
      · rename_i xs ys hx hy
        obtain ⟨xa, hvx, hdx⟩ := Option.bind_eq_some_iff.mp hx
        obtain ⟨ya, hvy, hdy⟩ := Option.bind_eq_some_iff.mp hy
        rw [allD_eq hdx] at hvx
        rw [allD_eq hdy] at hvy
        obtain ⟨a, us, rfl, q1, pr1⟩ := viewS_ok rl1.rs rx hvx
        obtain ⟨b, ts, rfl, q2, pr2⟩ := viewS_ok rl1.rs ry hvy
        rw [F.K]
        refine ⟨a, b, us, ts, rfl, q1, q2, p1.here rl1 fun w2 st2 H2 e2 rs2 ok => ?_⟩
        obtain ⟨a', us', e', q1', pr1'⟩ := viewS_ok rs2 (rx.ext e2) ok.1
        cases e'
        obtain ⟨b', ts', e', q2', pr2'⟩ := viewS_ok rs2 (ry.ext e2) ok.2
        cases e'
        have l1 := pr1'.length
        have l2 := pr2'.length
        rw [List.length_map] at l1 l2
        refine ⟨⟨us', ts', q1', q2', ?_⟩, fun i z hz => ?_⟩
        · rw [show (⟨zipD xs ys, fun s => viewS s x = some (xs.map .d) ∧ viewS s y = some (ys.map .d)⟩ : Walk).items.length = min xs.length ys.length from zipD_len xs ys]
          omega
        · obtain ⟨dx, dy, gx, gy, rfl⟩ := zipD_get hz
          obtain ⟨u, hu, ru⟩ := paired_get pr1' (b := A.d dx) (by rw [List.getElem?_map, gx]; rfl)
          obtain ⟨t, ht, rt⟩ := paired_get pr2' (b := A.d dy) (by rw [List.getElem?_map, gy]; rfl)
          refine ⟨⟨us', ts', u, t, q1', q2', hu, ht⟩, fun v H3 ⟨T, x', y', ev, hT, e3, y1, y2⟩ σa2 σ2 rl2 => ?_⟩
          have z1 := y1 us' q1'
          have z2 := y2 ts' q2'
          rw [hu] at z1
          rw [ht] at z2
          cases z1
          cases z2
          subst ev e3
          have g := rl2.rs.same.free hT
          have ru' : DR c (upd w2.G T (.tup [u, t])) dx u := DR.same (same_upd g) ru
          have rt' : DR c (upd w2.G T (.tup [u, t])) dy t := DR.same (same_upd g) rt
          exact ⟨w2.put T (.tup [u, t]), w2.put_ext g, rl2.put hT, T, [u, t], rfl, upd_same, ⟨u, [t], rfl, ru', t, [], rfl, rt', rfl⟩⟩
      · exact p1.elim
    · exact p1.elim⟩
end
end Am
/-! ### Am: isinstance by a built-in type -/
namespace Am
open PySem PySem.Spec PyProof.Rows L2
def tyD : D → Option String
  | .non => some "NoneType"
  | .bl _ => some "bool"
  | .int _ => some "int"
  | .str _ => some "str"
  | .list _ => some "list"
  | .tup _ => some "tuple"
  | _ => none
def tyA (st : Store) : A → Option String
  | .d x => tyD x
  | .c i => match st[i]? with
    | some (.lst _) => some "list"
    | some (.dK _) => some "dict"
    | some (.dT _) => some "dict"
    | some (.fz x) => tyD x
    | _ => none
def gIsi (t : String) : A → Store → Res A := fun a st => match (tyA st a).bind fun n => kitB n t with
  | some b => .ok (.d (.bl b)) st
  | none => .no
section
variable {c : Ctx} {w : Wd} {st : Store} {H : Hp}
theorem tyD_ok {G : Hp} (sm : Same G H) {x : D} {v : V} {t : String} (r : DR c G x v) (h : tyD x = some t) : TyX c.K H v (.type t) := by
  cases x with
  | non => cases h; cases r; exact .base .non
  | bl b => cases h; cases r; exact .base (.bl _)
  | int i => cases h; cases r; exact .base (.int _)
  | str s => cases h; cases r; exact .base (.str _)
  | list ds => cases h; obtain ⟨a, vs, rfl, e, _⟩ := r; exact .base (.lst (sm _ _ e))
  | tup ds => cases h; obtain ⟨a, vs, rfl, e, _⟩ := r; exact .base (.tup (sm _ _ e))
  | _ => cases h
theorem tyA_ok (rl : RelS c w st H) : ∀ {a : A} {v : V} {t : String}, RA c w st.length v a → tyA st a = some t → TyX c.K H v (.type t)
  | .d x, v, t, r, h => tyD_ok rl.same r h
  | .c i, v, t, ⟨h1, h2⟩, h => by
    have h : (match st[i]? with | some (.lst _) => some "list" | some (.dK _) => some "dict" | some (.dT _) => some "dict" | some (.fz x) => tyD x | _ => none) = some t := h
    split at h
    · rename_i q
      cases h
      obtain ⟨_, us, e, _⟩ := rl.cell _ _ q
      rw [h2]
      exact .base (.lst e)
    · rename_i q
      cases h
      obtain ⟨_, us, e, _⟩ := rl.cell _ _ q
      rw [h2]
      exact .base (.dK e)
    · rename_i q
      cases h
      obtain ⟨_, us, e, _⟩ := rl.cell _ _ q
      rw [h2]
      exact .base (.dT e)
    · rename_i q
      obtain ⟨r, _⟩ := rl.cell _ _ q
      rw [h2]
      exact tyD_ok rl.same r h
    · cases h
end
theorem e_isi {X : Cx} {c : Ctx} {W : WX} {e : Expr} {fo : ME} {n : Str} {t : String} {p p2 pos : Pos} (h : PE X e (tM c W fo)) (hm : c.mg "isinstance" = none) (hn : c.mg n = none) (hv : bootBuiltins n = some (.type t)) (F : Fits X c := by exact ⟨rfl, rfl⟩)
    (hgl : Gl X "isinstance" := by rfl) (hgn : Gl X n := by rfl) (nm : n ≠ "__name__" := by decide) (nd : (n == ("__debug__" : Str)) = false := by decide)
    (he : starEach [e, .Name n p2] X.env = (false, eval e X.env) :: starEach [.Name n p2] X.env := by rfl) (hpl : (backTo pos (starEach [.Name n p2] X.env)).any (·.1) = false := by rfl) :
    PE X (.Call (.Name "isinstance" p) [e, .Name n p2] [] pos) (tM c W (mUn (gIsi t) fo)) :=
  pe_imp (pe_callB call_isi hgl (F.mg ▸ hm) boot_isinstance (pa_cons h (pa_cons (pe_bltn (v := .ty t) hgn (F.mg ▸ hn) hv rfl (hn := nm) (hd := nd)) pa_nil) (hs := he)) (by decide) (by decide) he hpl) fun σ H Q ⟨w, σa, st, rl, q⟩ =>
    ⟨w, σa, st, rl, q.bind fun v a st1 w1 H1 _ rl1 ra p1 => by
      unfold gIsi at p1
      split at p1
      · rename_i b hb
        obtain ⟨m, h1, h2⟩ := Option.bind_eq_some_iff.mp hb
        have z := tyA_ok rl1.rs ra h1
        rw [← F.K] at z
        exact ⟨v, .ty t, .type m, .type t, b, rfl, .ty t, z, kit_ty h2, p1.here rl1 rfl⟩
      · exact p1.elim⟩
end Am
/-! ### Am: displays of dicts whose keys are written -/
namespace Am
open PySem PySem.Spec PyProof.Rows L2
def mAll : List ME → MA
  | [] => mNil
  | f :: fs => mCons f (mAll fs)
def mergeA (kvs : List (Key × A)) : List (Key × A) := kvs.foldl (fun acc kv => putA acc kv.1 kv.2) []
/-- {k: f, ..}, a new cell -/
def mDisp (l : List (Key × ME)) : ME := fun σ st => (mAll (l.map (·.2)) σ (st ++ [.dK []])).bind fun as st1 => match st1[st.length]? with
  | some (.dK []) => .ok (.c st.length) (st1.set st.length (.dK (mergeA ((l.map (·.1)).zip as))))
  | _ => .no
def trsOf (c : Ctx) (W : WX) (l : List (Key × ME)) : List (TE × TE) := l.map fun p => (tC (kV p.1), tM c W p.2)
section
variable {X : Cx} {c : Ctx} {W : WX} {w : Wd} {σa : Slots} {σ : L2.St}
theorem pairs_mono {Q Q' : List (V × V) → Hp → Prop} (h : ∀ ps H, Q ps H → Q' ps H) : ∀ (l : List (Key × ME)) {H : Hp}, tPairs (trsOf c W l) σ H Q → tPairs (trsOf c W l) σ H Q'
  | [], H, q => h [] H q
  | p :: l, H, q => by
    obtain ⟨w, σa, st, rl, q⟩ := (show tM c W p.2 σ H fun y H2 => tPairs (trsOf c W l) σ H2 fun ps H3 => Q ((kV p.1, y) :: ps) H3 from q)
    show tM c W p.2 σ H fun y H2 => tPairs (trsOf c W l) σ H2 fun ps H3 => Q' ((kV p.1, y) :: ps) H3
    refine ⟨w, σa, st, rl, ?_⟩
    cases hr : p.2 σa st with
    | ok a st1 => rw [hr] at q; exact fun v w' H' e r ra => pairs_mono (fun ps H3 z => h _ _ z) l (q v w' H' e r ra)
    | ex x st1 => rw [hr] at q; exact q
    | no => rw [hr] at q; exact q
theorem pairs_ok : ∀ (l : List (Key × ME)) {w : Wd} {st : Store} {H : Hp} {Q : List V → Hp → Prop}, Rel c w σa st σ H → Post c w st.length σa σ (fun w n vs as => Paired (RA c w n) vs as) W Q (mAll (l.map (·.2)) σa st) →
    tPairs (trsOf c W l) σ H fun ps H' => ∃ vs, vs.length = l.length ∧ ps = ((l.map (·.1)).zip vs).map (fun kv => (kV kv.1, kv.2)) ∧ Q vs H'
  | [], w, st, H, Q, rl, q => ⟨[], rfl, rfl, q.here rl .nil⟩
  | p :: l, w, st, H, Q, rl, q => by
    show tM c W p.2 σ H fun y H2 => tPairs (trsOf c W l) σ H2 fun ps H3 => ∃ vs, vs.length = (p :: l).length ∧ (kV p.1, y) :: ps = (((p :: l).map (·.1)).zip vs).map (fun kv => (kV kv.1, kv.2)) ∧ Q vs H3
    refine ⟨w, σa, st, rl, Post.bind (show Post c w st.length σa σ (fun w n vs as => Paired (RA c w n) vs as) W Q ((p.2 σa st).bind fun x st1 => (mAll (l.map (·.2)) σa st1).bind fun xs st2 => .ok (x :: xs) st2) from q) fun v a st1 w1 H1 e1 rl1 ra p1 => ?_⟩
    have ih := pairs_ok l (Q := fun vs H3 => Q (v :: vs) H3) rl1 (Post.bind p1 fun vs as st2 w2 H2 e2 rl2 rs p2 => Post.here p2 rl2 (.cons (ra.ext e2) rs))
    refine pairs_mono (fun ps H3 ⟨vs, hl, e, q⟩ => ⟨v :: vs, by rw [List.length_cons, List.length_cons, hl], ?_, q⟩) l ih
    rw [e]
    rfl
theorem mergeA_ok {R : V → A → Prop} : ∀ {us : List (Key × V)} {xs : List (Key × A)} {as : List (Key × V)} {bs : List (Key × A)}, Paired (KD R) us xs → Paired (KD R) as bs → Paired (KD R) (mergeK as us) (xs.foldl (fun acc kv => putA acc kv.1 kv.2) bs)
  | _, _, _, _, .nil, h => h
  | (k, _) :: _, (k2, _) :: _, _, _, .cons ⟨e, r⟩ t, h => by
    have e : k = k2 := e
    subst e
    have z := mergeA_ok t (putA_ok (k := k) r h)
    exact z
theorem zip_pair {R : V → A → Prop} : ∀ (ks : List Key) {vs : List V} {as : List A}, Paired R vs as → Paired (KD R) (ks.zip vs) (ks.zip as)
  | [], _, _, _ => by rw [List.zip_nil_left, List.zip_nil_left]; exact .nil
  | _ :: _, _, _, .nil => by rw [List.zip_nil_right, List.zip_nil_right]; exact .nil
  | _ :: ks, _, _, .cons r t => .cons ⟨rfl, r⟩ (zip_pair ks t)
theorem e_disp {l : List (Key × ME)} {keys : List (Option Expr)} {values : List Expr} {pos : Pos} (h : PPs X pos keys values (trsOf c W l)) (hk : keys.length = l.length) (hall : keys.all (·.isSome) = true := by rfl) (hl : keys.length = values.length := by rfl) (h0 : keys ≠ [] := by intro z; cases z) (h15 : keys.length ≤ 15 := by decide) :
    PE X (.Dict keys values pos) (tM c W (mDisp l)) := pe_imp (pe_disp h hall hl h0 h15) fun σ H Q ⟨w, σa, st, rl, q⟩ p hp => by
  have g := rl.rs.same.free hp
  have rl1 : Rel c (w.cell st.length p) σa (st ++ [.dK []]) σ (upd H p (.dK [])) := rl.push hp ⟨g, [], upd_same, .nil⟩
  have e0 : Ext w st.length (w.cell st.length p) (st ++ [Cell.dK []]).length := by rw [List.length_append]; exact w.cell_ext _ _
  refine pairs_mono (fun ps H2 ⟨vs, hvl, e, z⟩ => z hvl ps e) l (pairs_ok l (Q := fun vs H2 => vs.length = l.length → ∀ ps, ps = ((l.map (·.1)).zip vs).map (fun kv => (kV kv.1, kv.2)) → H2 p = some (.dK []) ∧ ∃ kvs : List (Key × V), ps = kvs.map (fun kv => (kV kv.1, kv.2)) ∧ kvs.length ≤ 15 ∧ Q (.ref p) (upd H2 p (.dK (mergeK [] kvs)))) rl1 (Post.bind (Post.mono e0 q) fun vs as st1 w1 H1 e1 rl2 rs p1 hvl ps eps => ?_))
  split at p1
  · rename_i hc
    obtain ⟨g1, us, eu, pr⟩ := rl2.rs.cell _ _ hc
    cases pr
    have ep : w1.E st.length = p := by
      rw [e1.cells _ (by rw [List.length_append]; exact Nat.lt_succ_self _), Wd.cell_at]
    have hw := rl2.write hc g1 (y := .dK (mergeA ((l.map (·.1)).zip as))) (o := .dK (mergeK [] ((l.map (·.1)).zip vs))) ⟨g1, _, upd_same, mergeA_ok (zip_pair _ rs) .nil⟩
    rw [ep] at eu hw
    refine ⟨eu, (l.map (·.1)).zip vs, eps, ?_, ?_⟩
    · rw [List.length_zip, List.length_map]
      have : l.length ≤ 15 := by rw [← hk]; exact h15
      omega
    · refine p1 (.ref p) w1 _ ?_ hw ?_
      · rw [List.length_set]; exact Ext.refl _ _
      · exact ⟨by rw [List.length_set]; exact RelS.lt hc, by rw [ep]⟩
  · exact p1.elim
end
end Am
/-! ### Am: reckoning with instances -/
namespace Am
open PySem PySem.Spec PyProof.Rows L2
section
variable (isF : Str → Str → Bool) (f : Str) (σ : Slots) (st : Store)
def fldI (v : Option (Str × List (Str × A))) (st : Store) : Res A := match v with
  | some (x, fs) => if isF x f then match fs.lookup f with
      | some v => .ok v st
      | none => .no
    else .no
  | none => .no
theorem gFld_ap (a : A) : gFld isF f a st = fldI isF f (viewI st a) st := by
  unfold gFld fldI
  cases viewI st a <;> rfl
def lookR (v : Option A) (st : Store) : Res A := match v with
  | some v => .ok v st
  | none => .no
theorem lookR_some (v : A) : lookR (some v) st = .ok v st := rfl
theorem fldI_some (x : Str) (fs : List (Str × A)) (h : isF x f = true) : fldI isF f (some (x, fs)) st = lookR (fs.lookup f) st := by
  unfold fldI lookR
  simp only [h, if_true] <;> (cases fs.lookup f <;> rfl)
theorem viewI_c (i : Nat) : viewI st (.c i) = match st[i]? with
    | some (.ins x fs) => some (x, fs)
    | some (.fz (.ins x fs)) => some (x, fs.map fun p => (p.1, A.d p.2))
    | _ => none := rfl
theorem mFld_ap (fo : ME) : mFld isF f fo σ st = (fo σ st).bind (gFld isF f) := rfl
noncomputable def fs2 (r : Res A) (y : A) (σ : Slots) : Out := lift r σ fun o st2 => match gFS isF f o y st2 with
  | some st3 => .nx σ st3
  | none => .no
noncomputable def fsR (r : Res A) (fo : ME) (σ : Slots) : Out := lift r σ fun y st1 => fs2 isF f (fo σ st1) y σ
theorem mFS_ap (fo fv : ME) : mFS isF f fo fv σ st = fsR isF f (fv σ st) fo σ := rfl
theorem fsR_ok (y : A) (fo : ME) : fsR isF f (.ok y st) fo σ = fs2 isF f (fo σ st) y σ := rfl
noncomputable def fsC (x : Option Cell) (i : Nat) (y : A) (σ : Slots) (st : Store) : Out := match x with
  | some (.ins x fs) => if isF x f = true ∧ fs.length < 1000 then .nx σ (st.set i (.ins x (putM f y fs))) else .no
  | _ => .no
theorem fs2_ok (i : Nat) (y : A) : fs2 isF f (.ok (.c i) st) y σ = fsC isF f st[i]? i y σ st := by
  show (match gFS isF f (.c i) y st with | some st3 => Out.nx σ st3 | none => .no) = _
  unfold gFS fsC
  simp only []
  cases st[i]? with
  | none => rfl
  | some x => cases x with
    | ins x fs =>
      by_cases h : isF x f = true ∧ fs.length < 1000
      · simp only [ifc_pos h, if_pos h]
      · simp only [ifc_neg h, if_neg h]
    | _ => rfl
theorem fsC_ins (x : Str) (fs : List (Str × A)) (i : Nat) (y : A) (h : isF x f = true ∧ fs.length < 1000) : fsC isF f (some (.ins x fs)) i y σ st = .nx σ (st.set i (.ins x (putM f y fs))) := if_pos h
end
section
variable (x m : Str) (f : MF) (σ : Slots) (st : Store)
def methI (v : Option (Str × List (Str × A))) (a : A) (fs : MA) (σ : Slots) (st : Store) : Res A := match v with
  | some (y, flds) => if y = x ∧ flds.lookup m = none then (fs σ st).bind fun as st2 => f (a :: as) st2 else .no
  | none => .no
def methO (r : Res A) (fs : MA) (σ : Slots) : Res A := r.bind fun a st1 => methI x m f (viewI st1 a) a fs σ st1
theorem mMeth_ap (fo : ME) (fs : MA) : mMeth x m f fo fs σ st = methO x m f (fo σ st) fs σ := by
  unfold mMeth methO
  congr 1
theorem methO_ok (a : A) (fs : MA) : methO x m f (.ok a st) fs σ = methI x m f (viewI st a) a fs σ st := rfl
def callA (f : MF) (a : A) (r : Res (List A)) : Res A := r.bind fun as st2 => f (a :: as) st2
theorem callA_ok (a : A) (as : List A) : callA f a (.ok as st) = f (a :: as) st := rfl
theorem methI_some (flds : List (Str × A)) (a : A) (fs : MA) (h : flds.lookup m = none) : methI x m f (some (x, flds)) a fs σ st = callA f a (fs σ st) := if_pos ⟨rfl, h⟩
def madeR (i : Nat) (r : Res A) : Res A := r.bind fun r st2 => match r with
  | .d .non => .ok (.c i) st2
  | _ => .no
theorem madeR_ok (i : Nat) : madeR i (.ok (.d .non) st) = .ok (.c i) st := rfl
def makeR (r : Res (List A)) : Res A := r.bind fun as st1 => madeR st1.length (f (.c st1.length :: as) (st1 ++ [.ins x []]))
theorem mMake_ap (fs : MA) : mMake x f fs σ st = makeR x f (fs σ st) := by
  unfold mMake makeR madeR
  congr 1
theorem makeR_ok (as : List A) : makeR x f (.ok as st) = madeR st.length (f (.c st.length :: as) (st ++ [.ins x []])) := rfl
theorem mRaise_ap : mRaise x σ st = .ex ⟨x, none⟩ σ st := rfl
end
section
variable (isF : Str → Str → Bool) (f : Str) (g : A → A → Store → Res A) (σ : Slots) (st : Store)
def clsO : Option Cell → Option Str
  | some (.ins c _) => some c
  | some (.fz (.ins c _)) => some c
  | _ => none
theorem clsA_c (i : Nat) : clsA st (.c i) = clsO st[i]? := by
  unfold clsA
  rw [viewI_c]
  cases st[i]? with
  | none => rfl
  | some x => cases x with
    | fz d => cases d <;> rfl
    | _ => rfl
noncomputable def faC (x x1 : Option Cell) (i : Nat) (z : A) (σ : Slots) (st : Store) : Out := match x with
  | some (.ins c fs) => if isF c f = true ∧ fs.length < 1000 then needO (some c = clsO x1) (.nx σ (st.set i (.ins c (putM f z fs)))) else .no
  | _ => .no
noncomputable def fa5 (o z : A) (st1 : Store) (σ : Slots) (st4 : Store) : Out := match gFS isF f o z st4 with
  | some st5 => needO (clsA st4 o = clsA st1 o) (.nx σ st5)
  | none => .no
noncomputable def fa4 (r : Res A) (o : A) (st1 : Store) (σ : Slots) : Out := lift r σ fun z st4 => fa5 isF f o z st1 σ st4
noncomputable def fa3 (r : Res A) (x o : A) (st1 : Store) (σ : Slots) : Out := lift r σ fun y st3 => fa4 isF f (g x y st3) o st1 σ
noncomputable def fa2 (r : Res A) (fv : ME) (o : A) (st1 : Store) (σ : Slots) : Out := lift r σ fun x st2 => fa3 isF f g (fv σ st2) x o st1 σ
noncomputable def fa1 (r : Res A) (fv : ME) (σ : Slots) : Out := lift r σ fun o st1 => fa2 isF f g (gFld isF f o st1) fv o st1 σ
theorem mFA_ap (fo fv : ME) : mFA isF f g fo fv σ st = fa1 isF f g (fo σ st) fv σ := by
  unfold mFA fa1 fa2 fa3 fa4 fa5
  congr 1
theorem fa1_ok (o : A) (fv : ME) : fa1 isF f g (.ok o st) fv σ = fa2 isF f g (gFld isF f o st) fv o st σ := rfl
theorem fa2_ok (x o : A) (fv : ME) (st1 : Store) : fa2 isF f g (.ok x st) fv o st1 σ = fa3 isF f g (fv σ st) x o st1 σ := rfl
theorem fa3_ok (x y o : A) (st1 : Store) : fa3 isF f g (.ok y st) x o st1 σ = fa4 isF f (g x y st) o st1 σ := rfl
theorem fa4_ok (z o : A) (st1 : Store) : fa4 isF f (.ok z st) o st1 σ = fa5 isF f o z st1 σ st := rfl
theorem fa5_c (i : Nat) (z : A) (st1 : Store) : fa5 isF f (.c i) z st1 σ st = faC isF f st[i]? st1[i]? i z σ st := by
  unfold fa5 faC gFS
  rw [clsA_c, clsA_c]
  simp only []
  cases st[i]? with
  | none => rfl
  | some x => cases x with
    | ins c fs =>
      by_cases h : isF c f = true ∧ fs.length < 1000
      · simp only [ifc_pos h, if_pos h, clsO]
      · simp only [ifc_neg h, if_neg h]
    | _ => rfl
theorem faC_ins (c : Str) (fs : List (Str × A)) (x1 : Option Cell) (i : Nat) (z : A) (h : isF c f = true ∧ fs.length < 1000) (h1 : clsO x1 = some c) : faC isF f (some (.ins c fs)) x1 i z σ st = .nx σ (st.set i (.ins c (putM f z fs))) := by
  show (if isF c f = true ∧ fs.length < 1000 then needO _ _ else _) = _
  rw [if_pos h, needO_pos h1.symm]
end
theorem ixC_l (xs : List A) (j : Int) (st : Store) : ixC (some (.lst xs)) (.d (.int j)) st = match atI xs j with | some x => .ok x st | none => .no := rfl
theorem ixC_fl (ds : List D) (j : Int) (st : Store) : ixC (some (.fz (.list ds))) (.d (.int j)) st = match atI (ds.map A.d) j with | some x => .ok x st | none => .no := rfl
theorem lenC_l (xs : List A) (st : Store) : lenC (some (.lst xs)) st = .ok (.d (.int (xs.length : Nat))) st := rfl
theorem lenC_fl (xs : List D) (st : Store) : lenC (some (.fz (.list xs))) st = .ok (.d (.int (xs.length : Nat))) st := rfl
theorem lenC_k (xs : List (Key × A)) (st : Store) : lenC (some (.dK xs)) st = .ok (.d (.int (xs.length : Nat))) st := rfl
theorem lenC_t (xs : List (List Key × A)) (st : Store) : lenC (some (.dT xs)) st = .ok (.d (.int (xs.length : Nat))) st := rfl
theorem gEq_ni (j : Int) (st : Store) : gEq false (.d .non) (.d (.int j)) st = .ok (.d (.bl false)) st := gEq_diff (n := 0) st (Pl.non 0) (Pl.int 0 j) false (fun z => nomatch z)
theorem gEq_bf (a b : Bool) (st : Store) : gEq false (.d (.bl a)) (.d (.bl b)) st = .ok (.d (.bl (decide (a = b)))) st := by
  unfold gEq
  rw [show peek st (.d (.bl a)) = some (.bl a) from rfl, show peek st (.d (.bl b)) = some (.bl b) from rfl, Option.bind_some, Option.bind_some, D.py, D.py]
  cases a <;> cases b <;> exact need_pos ⟨by decide, by decide⟩
theorem gEq_bt (a b : Bool) (st : Store) : gEq true (.d (.bl a)) (.d (.bl b)) st = .ok (.d (.bl (!decide (a = b)))) st := by
  unfold gEq
  rw [show peek st (.d (.bl a)) = some (.bl a) from rfl, show peek st (.d (.bl b)) = some (.bl b) from rfl, Option.bind_some, Option.bind_some, D.py, D.py]
  cases a <;> cases b <;> exact need_pos ⟨by decide, by decide⟩
theorem gIsi_i (t : String) (i : Int) (st : Store) (b : Bool) (h : kitB "int" t = some b) : gIsi t (.d (.int i)) st = .ok (.d (.bl b)) st := by
  unfold gIsi
  rw [show tyA st (.d (.int i)) = some "int" from rfl, Option.bind_some, h]
theorem gIsi_ii (i : Int) (st : Store) : gIsi "int" (.d (.int i)) st = .ok (.d (.bl true)) st := gIsi_i _ _ _ _ rfl
theorem gIsi_ib (i : Int) (st : Store) : gIsi "bool" (.d (.int i)) st = .ok (.d (.bl false)) st := gIsi_i _ _ _ _ (by decide +kernel)
/-! comprehensions whose elements may be cells, by what holds ahead of each turn -/
theorem lcA_inv {pt : Pt} {f : ME} {n : Nat} {ok : Store → Prop} {σ : Slots} (I : Nat → List A → Store → Prop) (hok : ∀ j acc s, I j acc s → ok s) : ∀ (xs : List A) (i : Nat) (acc : List A) (s : Store), s[n]? = some (.lst acc) → I i acc s → acc.length + xs.length ≤ SZ →
    (∀ j x acc s, xs[j]? = some x → s[n]? = some (.lst acc) → I (i + j) acc s → ∃ σ1 y s2, pt σ x = some σ1 ∧ f σ1 s = .ok y s2 ∧ s2[n]? = some (.lst acc) ∧ I (i + j + 1) (acc ++ [y]) (s2.set n (.lst (acc ++ [y])))) →
    ∃ acc' s', lcA pt mYes f n ok σ xs s = .ok () s' ∧ s'[n]? = some (.lst acc') ∧ I (i + xs.length) acc' s'
  | [], i, acc, s, h, hi, _, _ => ⟨acc, s, by rw [lcA, need_pos (hok _ _ _ hi)], h, hi⟩
  | x :: xs, i, acc, s, h, hi, hl, ht => by
    obtain ⟨σ1, y, s2, e1, e2, e3, e4⟩ := ht 0 x acc s rfl h hi
    rw [List.length_cons] at hl
    have hn : n < s2.length := RelS.lt e3
    obtain ⟨acc', s', f1, f2, f3⟩ := lcA_inv I hok xs (i + 1) (acc ++ [y]) (s2.set n (.lst (acc ++ [y]))) (List.getElem?_set_self hn) e4 (by rw [List.length_append, List.length_singleton]; omega) fun j x acc s hx ha hI => by
      have := ht (j + 1) x acc s hx ha (by rw [show i + (j + 1) = i + 1 + j by omega]; exact hI)
      rw [show i + (j + 1) + 1 = i + 1 + j + 1 by omega] at this
      exact this
    refine ⟨acc', s', ?_, f2, by rw [List.length_cons, show i + (xs.length + 1) = i + 1 + xs.length by omega]; exact f3⟩
    rw [lcA, need_pos (hok _ _ _ hi)]
    simp only [e1, mYes, noEx, Res.bind, if_true, e2, e3]
    rw [ifc_pos (by omega)]
    exact f1
theorem mLc_cells {it : MI} {vs : List Nat} {pt : Pt} {f : ME} {σ : Slots} {st st1 : Store} {xs : List A} {ok : Store → Prop} (I : Nat → List A → Store → Prop) (hit : it σ st = .ok ⟨xs, ok⟩ st1) (hl : xs.length ≤ SZ) (h0 : I 0 [] (st1 ++ [.lst []])) (hok : ∀ j acc s, I j acc s → ok s)
    (ht : ∀ j x acc s, xs[j]? = some x → s[st1.length]? = some (.lst acc) → I j acc s → ∃ σ1 y s2, pt (wipeA σ vs) x = some σ1 ∧ f σ1 s = .ok y s2 ∧ s2[st1.length]? = some (.lst acc) ∧ I (j + 1) (acc ++ [y]) (s2.set st1.length (.lst (acc ++ [y])))) :
    ∃ acc s, mLc true vs pt it mYes f σ st = .ok (.c st1.length) s ∧ s[st1.length]? = some (.lst acc) ∧ I xs.length acc s := by
  obtain ⟨acc, s, e1, e2, e3⟩ := lcA_inv (pt := pt) (f := f) (n := st1.length) (ok := ok) (σ := wipeA σ vs) I hok xs 0 [] (st1 ++ [.lst []]) (by simp) h0 (by simpa using hl) fun j x acc s hx ha hI => by
    rw [Nat.zero_add] at hI
    rw [Nat.zero_add]
    exact ht j x acc s hx ha hI
  rw [Nat.zero_add] at e3
  refine ⟨acc, s, ?_, e2, e3⟩
  unfold mLc
  rw [hit]
  show (lcA pt mYes f st1.length ok (wipeA σ vs) xs (st1 ++ [.lst []])).bind (fun _ st2 => lcEnd true st1 st2) = _
  rw [e1]
  show lcEnd true st1 s = _
  unfold lcEnd
  simp only [e2, if_true]
/-- [h i for i in range(..)], to be changed -/
theorem mLc_rangeC {it : MI} {j : Nat} {f : ME} {σ : Slots} {st st1 : Store} {lo s : Int} {n : Nat} (h : Nat → D) (hit : it σ st = .ok ⟨rangeA lo n s, fun _ => True⟩ st1) (hl : n ≤ SZ)
    (ht : ∀ i < n, ∀ ac : List A, f ((wipeA σ [j]).set j (some (.d (.int (lo + (i : Nat) * s))))) (st1 ++ [.lst ac]) = .ok (.d (h i)) (st1 ++ [.lst ac])) :
    mLc true [j] (pt1 j) it mYes f σ st = .ok (.c st1.length) (st1 ++ [.lst ((List.range n).map fun i => A.d (h i))]) := by
  obtain ⟨acc, s', e1, _, rfl, e3⟩ := mLc_cells (vs := [j]) (pt := pt1 j) (f := f) (fun i acc s' => s' = st1 ++ [.lst acc] ∧ acc = (List.range i).map fun i => A.d (h i)) hit (by rw [rangeA_length]; exact hl) ⟨rfl, rfl⟩ (fun _ _ _ _ => trivial) fun i x acc s' hx _ hI => by
    obtain ⟨rfl, ha⟩ := hI
    obtain ⟨hi, rfl⟩ := rangeA_get hx
    refine ⟨_, _, _, rfl, ht i hi acc, by rw [List.getElem?_append_right (Nat.le_refl _), Nat.sub_self]; rfl, by rw [List.set_append_right _ _ (Nat.le_refl _), Nat.sub_self]; rfl, ?_⟩
    rw [ha, List.range_succ, List.map_append]
    rfl
  rw [e1, e3, rangeA_length]
theorem loc_assoc (st L M : Store) : st ++ L ++ M = st ++ (L ++ M) := List.append_assoc _ _ _
end Am
/-! ### Am: how objects lie in the store, by roles -/
namespace Am
open PySem PySem.Spec PyProof.Rows L2
/-- the roles that are; where they lie; what their cells hold -/
structure Holds {ρ : Type} (is : ρ → Prop) (pl : ρ → Nat) (cell : ρ → Cell) (st : Store) : Prop where
  inj : ∀ r r', is r → is r' → pl r = pl r' → r = r'
  get : ∀ r, is r → st[pl r]? = some (cell r)
def Foot {ρ : Type} (is : ρ → Prop) (pl : ρ → Nat) (i : Nat) : Prop := ∃ r, is r ∧ pl r = i
/-- outside F nothing is changed -/
def Chg (F : Nat → Prop) (st st' : Store) : Prop := st.length ≤ st'.length ∧ ∀ i, i < st.length → ¬ F i → st'[i]? = st[i]?
/-- F' is of F and new places -/
def Sub (F : Nat → Prop) (st : Store) (F' : Nat → Prop) : Prop := ∀ i, F' i → F i ∨ st.length ≤ i
theorem Chg.refl (F : Nat → Prop) (st : Store) : Chg F st st := ⟨Nat.le_refl _, fun _ _ _ => rfl⟩
theorem Sub.refl (F : Nat → Prop) (st : Store) : Sub F st F := fun _ h => .inl h
theorem Chg.trans {F F1 : Nat → Prop} {st st1 st2 : Store} (a : Chg F st st1) (s : Sub F st F1) (b : Chg F1 st1 st2) : Chg F st st2 :=
  ⟨Nat.le_trans a.1 b.1, fun i hi hf => by
    rw [b.2 i (Nat.lt_of_lt_of_le hi a.1) fun h => (s i h).elim hf fun z => Nat.not_lt.mpr z hi]
    exact a.2 i hi hf⟩
theorem Sub.trans {F F1 F2 : Nat → Prop} {st st1 : Store} (s : Sub F st F1) (l : st.length ≤ st1.length) (t : Sub F1 st1 F2) : Sub F st F2 := fun i h => (t i h).elim (s i) fun z => .inr (Nat.le_trans l z)
theorem Chg.mono {F F1 : Nat → Prop} {st st1 : Store} (a : Chg F st st1) (h : ∀ i, F i → F1 i) : Chg F1 st st1 := ⟨a.1, fun i hi hf => a.2 i hi fun z => hf (h i z)⟩
theorem Chg.app (F : Nat → Prop) (st L : Store) : Chg F st (st ++ L) := ⟨by rw [List.length_append]; omega, fun i hi _ => List.getElem?_append_left hi⟩
theorem Chg.set {F : Nat → Prop} {i : Nat} (h : F i) (st : Store) (x : Cell) : Chg F st (st.set i x) := ⟨by rw [List.length_set]; exact Nat.le_refl _, fun j _ hf => List.getElem?_set_ne fun z => hf (by rw [← z]; exact h)⟩
theorem Chg.appset {F : Nat → Prop} {i : Nat} (h : F i) (st L : Store) (x : Cell) : Chg F st ((st ++ L).set i x) := ⟨by rw [List.length_set, List.length_append]; omega, fun j hj hf => by rw [List.getElem?_set_ne fun z => hf (by rw [← z]; exact h), List.getElem?_append_left hj]⟩
section
variable {ρ ρ2 : Type} {is : ρ → Prop} {pl : ρ → Nat} {cell cell' : ρ → Cell} {st st' : Store} {is2 : ρ2 → Prop} {pl2 : ρ2 → Nat} {cell2 : ρ2 → Cell}
theorem Holds.lt (h : Holds is pl cell st) {r : ρ} (hr : is r) : pl r < st.length := RelS.lt (h.get r hr)
theorem Holds.foot_lt (h : Holds is pl cell st) {i : Nat} (hf : Foot is pl i) : i < st.length := let ⟨_, hr, e⟩ := hf; e ▸ h.lt hr
theorem Holds.ne (h : Holds is pl cell st) {r r' : ρ} (hr : is r) (hr' : is r') (n : r ≠ r') : pl r ≠ pl r' := fun e => n (h.inj r r' hr hr' e)
theorem Holds.set (h : Holds is pl cell st) {r0 : ρ} {c : Cell} (h0 : is r0) (hc : cell' r0 = c) (ho : ∀ r, is r → r ≠ r0 → cell' r = cell r) : Holds is pl cell' (st.set (pl r0) c) :=
  ⟨h.inj, fun r hr => by
    by_cases e : r = r0
    · subst e
      rw [List.getElem?_set_self (h.lt hr), hc]
    · rw [List.getElem?_set_ne (h.ne h0 hr (Ne.symm e)), h.get r hr, ho r hr e]⟩
theorem Holds.app (h : Holds is pl cell st) (L : Store) : Holds is pl cell (st ++ L) := ⟨h.inj, fun r hr => base_get (h.get r hr) L⟩
theorem Holds.cut (h : Holds is pl cell st) {st' : Store} (e : ∀ i, i < st.length → st'[i]? = st[i]?) : Holds is pl cell st' := ⟨h.inj, fun r hr => (e _ (h.lt hr)).trans (h.get r hr)⟩
open Classical in
/-- another place of a role -/
noncomputable def plUpd (pl : ρ → Nat) (r0 : ρ) (p : Nat) : ρ → Nat := fun r => if r = r0 then p else pl r
theorem plUpd_same (r0 : ρ) (p : Nat) : plUpd pl r0 p r0 = p := if_pos rfl
theorem plUpd_ne {r r0 : ρ} (h : r ≠ r0) (p : Nat) : plUpd pl r0 p r = pl r := if_neg h
/-- a role is moved to a new place, its holder is told so -/
theorem Holds.move (h : Holds is pl cell st) {r0 q : ρ} {p : Nat} {c cq : Cell} (h0 : is r0) (hq : is q) (n : r0 ≠ q) (hp : ∀ r, is r → pl r ≠ p) (hc : st[p]? = some c) (e0 : cell' r0 = c) (eq : cell' q = cq) (ho : ∀ r, is r → r ≠ r0 → r ≠ q → cell' r = cell r) :
    Holds is (plUpd pl r0 p) cell' (st.set (pl q) cq) :=
  ⟨fun r r' hr hr' e => by
    by_cases a : r = r0
    · by_cases b : r' = r0
      · rw [a, b]
      · rw [a, plUpd_same, plUpd_ne b] at e
        exact absurd e.symm (hp r' hr')
    · by_cases b : r' = r0
      · rw [b, plUpd_same, plUpd_ne a] at e
        exact absurd e (hp r hr)
      · rw [plUpd_ne a, plUpd_ne b] at e
        exact h.inj r r' hr hr' e,
   fun r hr => by
    by_cases a : r = r0
    · subst a
      rw [plUpd_same, List.getElem?_set_ne (hp q hq), hc, e0]
    · rw [plUpd_ne a]
      by_cases b : r = q
      · subst b
        rw [List.getElem?_set_self (h.lt hr), eq]
      · rw [List.getElem?_set_ne (h.ne hq hr (Ne.symm b)), h.get r hr, ho r hr a b]⟩
theorem Holds.chg (h : Holds is pl cell st) {F : Nat → Prop} (c : Chg F st st') (d : ∀ i, Foot is pl i → ¬ F i) : Holds is pl cell st' :=
  ⟨h.inj, fun r hr => (c.2 _ (h.lt hr) (d _ ⟨r, hr, rfl⟩)).trans (h.get r hr)⟩
/-- two objects lie apart -/
def Apart (F F2 : Nat → Prop) : Prop := ∀ i, F i → F2 i → False
theorem Apart.sub {F F' F2 : Nat → Prop} (a : Apart F F2) (s : Sub F st F') (h : ∀ i, F2 i → i < st.length) : Apart F' F2 := fun i h1 h2 => (s i h1).elim (fun z => a i z h2) fun z => Nat.not_lt.mpr z (h i h2)
theorem Apart.symm {F F2 : Nat → Prop} (a : Apart F F2) : Apart F2 F := fun i h1 h2 => a i h2 h1
theorem viewS_chg {F : Nat → Prop} {a : A} {xs : List A} (c : Chg F st st') (h : viewS st a = some xs) (d : ∀ i, a = .c i → ¬ F i) : viewS st' a = some xs := by
  cases a with
  | d x => cases x <;> first | exact h | cases h
  | c i =>
    rw [viewS_c] at h ⊢
    have hi : i < st.length := by
      apply Classical.byContradiction
      intro z
      rw [List.getElem?_eq_none (by omega)] at h
      cases h
    rw [c.2 i hi (d i rfl)]
    exact h
end
theorem gListOf_v {k : Bool} {a : A} {xs : List A} {st : Store} (h : viewS st a = some xs) : gListOf k [a] st = mkL k xs st := by
  unfold gListOf
  simp only [h]
theorem atI_range {α : Type} (n : Nat) (f : Nat → α) {d : Nat} (h : d < n) : atI ((List.range n).map f) (d : Int) = some (f d) := atI_nat (by rw [List.getElem?_map, List.getElem?_range h]; rfl)
theorem range_upd {α : Type} {n d : Nat} (f : Nat → α) (x : α) : ((List.range n).map f).set d x = (List.range n).map fun i => if i = d then x else f i := by
  apply List.ext_getElem?
  intro i
  by_cases e : d = i
  · subst e
    by_cases h : d < n
    · rw [List.getElem?_set_self (by rw [List.length_map, List.length_range]; exact h), List.getElem?_map, List.getElem?_range h, Option.map_some, if_pos rfl]
    · rw [List.getElem?_eq_none (by rw [List.length_set, List.length_map, List.length_range]; omega), List.getElem?_eq_none (by rw [List.length_map, List.length_range]; omega)]
  · rw [List.getElem?_set_ne e, List.getElem?_map, List.getElem?_map]
    by_cases h : i < n
    · rw [List.getElem?_range h, Option.map_some, Option.map_some, if_neg (Ne.symm e)]
    · rw [List.getElem?_eq_none (by rw [List.length_range]; omega)]; rfl
/-! ### rows of media, rows of waiting writes, truths, under a root -/
inductive Ro where
  | o | M | W | T | m (d : Nat) | w (d : Nat)
abbrev Root := Nat → Nat → Nat → Cell
def is3 (n : Nat) : Ro → Prop
  | .m d => d < n
  | .w d => d < n
  | _ => True
/-- another value at a place -/
def fset {α : Type} (f : Nat → α) (d : Nat) (x : α) : Nat → α := fun e => if e = d then x else f e
theorem fset_same {α : Type} (f : Nat → α) (d : Nat) (x : α) : fset f d x d = x := if_pos rfl
theorem fset_ne {α : Type} {f : Nat → α} {d e : Nat} (h : e ≠ d) (x : α) : fset f d x e = f e := if_neg h
def c3 (root : Root) (n : Nat) (f g : Nat → List D) (t : Nat → Bool) (pl : Ro → Nat) : Ro → Cell
  | .o => root (pl .M) (pl .W) (pl .T)
  | .M => .lst ((List.range n).map fun d => .c (pl (.m d)))
  | .W => .lst ((List.range n).map fun d => .c (pl (.w d)))
  | .T => .lst ((List.range n).map fun d => .d (.bl (t d)))
  | .m d => .lst ((f d).map .d)
  | .w d => .lst ((g d).map .d)
def H3 (root : Root) (n : Nat) (f g : Nat → List D) (t : Nat → Bool) (pl : Ro → Nat) (st : Store) : Prop := Holds (is3 n) pl (c3 root n f g t pl) st
section
variable {root root' : Root} {n : Nat} {f g : Nat → List D} {t : Nat → Bool} {pl : Ro → Nat} {st : Store} (h : H3 root n f g t pl st)
include h
theorem H3.o : st[pl .o]? = some (root (pl .M) (pl .W) (pl .T)) := h.get .o trivial
theorem H3.M : st[pl .M]? = some (.lst ((List.range n).map fun d => .c (pl (.m d)))) := h.get .M trivial
theorem H3.W : st[pl .W]? = some (.lst ((List.range n).map fun d => .c (pl (.w d)))) := h.get .W trivial
theorem H3.T : st[pl .T]? = some (.lst ((List.range n).map fun d => .d (.bl (t d)))) := h.get .T trivial
theorem H3.m {d : Nat} (hl : d < n) : st[pl (.m d)]? = some (.lst ((f d).map .d)) := h.get (.m d) hl
theorem H3.w {d : Nat} (hl : d < n) : st[pl (.w d)]? = some (.lst ((g d).map .d)) := h.get (.w d) hl
theorem H3.app (L : Store) : H3 root n f g t pl (st ++ L) := Holds.app h L
theorem H3.setO (root' : Root) : H3 root' n f g t pl (st.set (pl .o) (root' (pl .M) (pl .W) (pl .T))) :=
  Holds.set h (cell' := c3 root' n f g t pl) (r0 := .o) trivial rfl fun r _ n => by cases r <;> first | rfl | exact absurd rfl n
theorem H3.setT (d : Nat) (b : Bool) : H3 root n f g (fset t d b) pl (st.set (pl .T) (.lst (((List.range n).map fun d => A.d (.bl (t d))).set d (.d (.bl b))))) :=
  Holds.set h (cell' := c3 root n f g (fset t d b) pl) (r0 := .T) trivial (by
    show Cell.lst _ = _
    rw [range_upd]
    congr 1
    apply List.map_congr_left
    intro e _
    by_cases z : e = d
    · rw [z, if_pos rfl, fset_same]
    · rw [if_neg z, fset_ne z]) fun r _ n => by cases r <;> first | rfl | exact absurd rfl n
theorem H3.setw {d : Nat} (hd : d < n) (xs : List D) : H3 root n f (fset g d xs) t pl (st.set (pl (.w d)) (.lst (xs.map .d))) :=
  Holds.set h (cell' := c3 root n f (fset g d xs) t pl) (r0 := .w d) hd (by show Cell.lst ((fset g d xs d).map A.d) = _; rw [fset_same]) fun r _ n => by
    cases r with
    | w e =>
      show Cell.lst ((fset g d xs e).map A.d) = .lst ((g e).map A.d)
      rw [fset_ne fun z => n (by rw [z])]
    | _ => rfl
theorem H3.setm {d : Nat} (hd : d < n) (xs : List D) : H3 root n (fset f d xs) g t pl (st.set (pl (.m d)) (.lst (xs.map .d))) :=
  Holds.set h (cell' := c3 root n (fset f d xs) g t pl) (r0 := .m d) hd (by show Cell.lst ((fset f d xs d).map A.d) = _; rw [fset_same]) fun r _ n => by
    cases r with
    | m e =>
      show Cell.lst ((fset f d xs e).map A.d) = .lst ((f e).map A.d)
      rw [fset_ne fun z => n (by rw [z])]
    | _ => rfl
theorem H3.fresh {r : Ro} (hr : is3 n r) : pl r ≠ st.length := Nat.ne_of_lt (Holds.lt h hr)
/-- a new row of waiting writes -/
theorem H3.neww {d : Nat} (hd : d < n) (xs : List D) : H3 root n f (fset g d xs) t (plUpd pl (.w d) st.length) ((st ++ [Cell.lst (xs.map .d)]).set (pl .W) (.lst (((List.range n).map fun d => A.c (pl (.w d))).set d (.c st.length)))) :=
  (Holds.app h _).move (cell' := c3 root n f (fset g d xs) t (plUpd pl (.w d) st.length)) (r0 := .w d) (q := .W) hd trivial (fun z => nomatch z) (fun r hr => H3.fresh h hr) (c := .lst (xs.map .d))
    (by rw [List.getElem?_append_right (Nat.le_refl _), Nat.sub_self]; rfl) (by show Cell.lst ((fset g d xs d).map A.d) = _; rw [fset_same])
    (by
      show Cell.lst _ = _
      rw [range_upd]
      congr 1
      apply List.map_congr_left
      intro e _
      by_cases z : e = d
      · rw [z, if_pos rfl, plUpd_same]
      · rw [if_neg z, plUpd_ne fun y => z (by cases y; rfl)])
    fun r _ n1 n2 => by
      cases r with
      | w e =>
        show Cell.lst ((fset g d xs e).map A.d) = .lst ((g e).map A.d)
        rw [fset_ne fun z => n1 (by rw [z])]
      | W => exact absurd rfl n2
      | o => show root _ _ _ = root _ _ _; rw [plUpd_ne (show Ro.M ≠ Ro.w d from fun z => nomatch z), plUpd_ne (show Ro.W ≠ Ro.w d from fun z => nomatch z), plUpd_ne (show Ro.T ≠ Ro.w d from fun z => nomatch z)]
      | M =>
        show Cell.lst _ = Cell.lst _
        congr 1
        apply List.map_congr_left
        intro e _
        rw [plUpd_ne (show Ro.m e ≠ Ro.w d from fun z => nomatch z)]
      | _ => rfl
/-- .. of a medium -/
theorem H3.newm {d : Nat} (hd : d < n) (xs : List D) : H3 root n (fset f d xs) g t (plUpd pl (.m d) st.length) ((st ++ [Cell.lst (xs.map .d)]).set (pl .M) (.lst (((List.range n).map fun d => A.c (pl (.m d))).set d (.c st.length)))) :=
  (Holds.app h _).move (cell' := c3 root n (fset f d xs) g t (plUpd pl (.m d) st.length)) (r0 := .m d) (q := .M) hd trivial (fun z => nomatch z) (fun r hr => H3.fresh h hr) (c := .lst (xs.map .d))
    (by rw [List.getElem?_append_right (Nat.le_refl _), Nat.sub_self]; rfl) (by show Cell.lst ((fset f d xs d).map A.d) = _; rw [fset_same])
    (by
      show Cell.lst _ = _
      rw [range_upd]
      congr 1
      apply List.map_congr_left
      intro e _
      by_cases z : e = d
      · rw [z, if_pos rfl, plUpd_same]
      · rw [if_neg z, plUpd_ne fun y => z (by cases y; rfl)])
    fun r _ n1 n2 => by
      cases r with
      | m e =>
        show Cell.lst ((fset f d xs e).map A.d) = .lst ((f e).map A.d)
        rw [fset_ne fun z => n1 (by rw [z])]
      | M => exact absurd rfl n2
      | o => show root _ _ _ = root _ _ _; rw [plUpd_ne (show Ro.M ≠ Ro.m d from fun z => nomatch z), plUpd_ne (show Ro.W ≠ Ro.m d from fun z => nomatch z), plUpd_ne (show Ro.T ≠ Ro.m d from fun z => nomatch z)]
      | W =>
        show Cell.lst _ = Cell.lst _
        congr 1
        apply List.map_congr_left
        intro e _
        rw [plUpd_ne (show Ro.w e ≠ Ro.m d from fun z => nomatch z)]
      | _ => rfl
end
abbrev F3 (n : Nat) (pl : Ro → Nat) : Nat → Prop := Foot (is3 n) pl
theorem foot_upd {n : Nat} {pl : Ro → Nat} {r0 : Ro} {st : Store} : Sub (F3 n pl) st (F3 n (plUpd pl r0 st.length)) := fun i ⟨r, hr, e⟩ => by
  by_cases z : r = r0
  · subst z
    rw [plUpd_same] at e
    exact .inr (Nat.le_of_eq e)
  · rw [plUpd_ne z] at e
    exact .inl ⟨r, hr, e⟩
theorem H3.rows {root : Root} {n : Nat} {f f' g g' : Nat → List D} {t t' : Nat → Bool} {pl : Ro → Nat} {st : Store} (h : H3 root n f g t pl st) (hf : ∀ d, d < n → f d = f' d) (hg : ∀ d, d < n → g d = g' d) (ht : ∀ d, d < n → t d = t' d) : H3 root n f' g' t' pl st :=
  ⟨h.inj, fun r hr => (h.get r hr).trans (congrArg some (by
    cases r with
    | m d => show Cell.lst ((f d).map A.d) = .lst ((f' d).map A.d); rw [hf d hr]
    | w d => show Cell.lst ((g d).map A.d) = .lst ((g' d).map A.d); rw [hg d hr]
    | T =>
      show Cell.lst _ = Cell.lst _
      congr 1
      apply List.map_congr_left
      intro e he
      rw [ht e (List.mem_range.mp he)]
    | _ => rfl))⟩
theorem take_succ_get {α : Type} {xs : List α} {i : Nat} {x : α} (h : xs[i]? = some x) : xs.take (i + 1) = xs.take i ++ [x] := by
  rw [List.take_add_one, h]; rfl
/-! loops that may end early -/
section
variable {σ : Slots} {st : Store} {g : MG} {b : MS} {ok : Store → Prop}
theorem forA_find {xs : List A} {o : Out} (ho : forA g b ok xs σ st = o) (I : Nat → Slots → Store → Prop) (p : A → Bool) (h0 : I 0 σ st) (hok : ∀ i σ st, i ≤ xs.length → I i σ st → ok st)
    (hn : ∀ i x σ st, xs[i]? = some x → p x = false → I i σ st → Nxt (I (i + 1)) (turn g b x σ st)) (hr : ∀ i x σ st, xs[i]? = some x → p x = true → I i σ st → ∃ a st1, turn g b x σ st = .rt a st1) :
    (xs.find? p = none ∧ ∃ σ' st', o = .nx σ' st' ∧ I xs.length σ' st') ∨ (∃ x i σ1 st1, xs.find? p = some x ∧ xs[i]? = some x ∧ I i σ1 st1 ∧ o = turn g b x σ1 st1) := by
  subst ho
  induction xs generalizing σ st I with
  | nil => exact .inl ⟨rfl, σ, st, by rw [forA, needO_pos (hok 0 _ _ (Nat.le_refl _) h0)], h0⟩
  | cons x xs ih =>
    have e0 : forA g b ok (x :: xs) σ st = match turn g b x σ st with
      | .nx σ2 st2 => forA g b ok xs σ2 st2
      | .ct σ2 st2 => forA g b ok xs σ2 st2
      | .bk σ2 st2 => .nx σ2 st2
      | o => o := by
      rw [forA, needO_pos (hok 0 _ _ (Nat.zero_le _) h0)]
      unfold turn
      cases g x σ st with
      | none => rfl
      | some y => rfl
    cases hp : p x with
    | true =>
      obtain ⟨a, st1, e1⟩ := hr 0 x σ st rfl hp h0
      refine .inr ⟨x, 0, σ, st, by rw [List.find?_cons, hp], rfl, h0, ?_⟩
      rw [e0, e1]
    | false =>
      have ht := hn 0 x σ st rfl hp h0
      have key : ∃ σ2 st2, forA g b ok (x :: xs) σ st = forA g b ok xs σ2 st2 ∧ I 1 σ2 st2 := by
        rw [e0]
        cases hb : turn g b x σ st with
        | nx σ2 st2 => rw [hb] at ht; exact ⟨σ2, st2, rfl, ht⟩
        | ct σ2 st2 => rw [hb] at ht; exact ⟨σ2, st2, rfl, ht⟩
        | _ => rw [hb] at ht; exact ht.elim
      obtain ⟨σ2, st2, e2, i2⟩ := key
      rw [e2]
      have z := ih (σ := σ2) (st := st2) (fun i => I (i + 1)) i2 (fun i σ st hi h => hok (i + 1) σ st (Nat.succ_le_succ hi) h) (fun i y σ st hy hp h => hn (i + 1) y σ st hy hp h) (fun i y σ st hy hp h => hr (i + 1) y σ st hy hp h)
      rcases z with ⟨z1, σ', st', z2, z3⟩ | ⟨y, i, σ1, st1, z1, z2, z3, z4⟩
      · exact .inl ⟨by rw [List.find?_cons, hp]; exact z1, σ', st', z2, z3⟩
      · exact .inr ⟨y, i + 1, σ1, st1, by rw [List.find?_cons, hp]; exact z1, z2, z3, z4⟩
end
theorem gLen_v {a : A} {xs : List A} {st : Store} (h : viewS st a = some xs) : gLen [a] st = .ok (.d (.int (xs.length : Nat))) st := by
  unfold gLen
  simp only [h]
theorem gIx_v {a y : A} {xs : List A} {st : Store} {i : Int} (h : viewS st a = some xs) (hy : atI xs i = some y) : gIx a (.d (.int i)) st = .ok y st := by
  cases a with
  | c k =>
    rw [gIx_c]
    rw [viewS_c] at h
    split at h
    · rename_i e
      cases h
      rw [e]
      show (match atI xs i with | some x => Res.ok x st | none => .no) = _
      rw [hy]
    · rename_i ds e
      cases h
      rw [e]
      show (match atI (ds.map A.d) i with | some x => Res.ok x st | none => .no) = _
      rw [hy]
    · cases h
  | d x => cases x with
    | list ds => cases h; rw [gIx_l, hy]
    | scr ds => cases h; rw [gIx_s, hy]
    | _ => cases h
/-- [h x for x in xs], to be changed -/
theorem mLc_allC {it : MI} {vs : List Nat} {pt : Pt} {f : ME} {σ : Slots} {st st1 : Store} {xs : List A} {ok : Store → Prop} (h : A → D) (hit : it σ st = .ok ⟨xs, ok⟩ st1) (hok : ∀ ac : List A, ok (st1 ++ [.lst ac])) (hl : xs.length ≤ SZ)
    (ht : ∀ x ∈ xs, ∀ ac : List A, ∃ σ1, pt (wipeA σ vs) x = some σ1 ∧ f σ1 (st1 ++ [.lst ac]) = .ok (.d (h x)) (st1 ++ [.lst ac])) :
    mLc true vs pt it mYes f σ st = .ok (.c st1.length) (st1 ++ [.lst ((xs.map h).map A.d)]) := by
  obtain ⟨acc, s', e1, _, rfl, e3⟩ := mLc_cells (vs := vs) (pt := pt) (f := f) (fun i acc s' => s' = st1 ++ [.lst acc] ∧ acc = ((xs.take i).map h).map A.d) hit hl ⟨rfl, rfl⟩ (fun _ acc _ ⟨e, _⟩ => by rw [e]; exact hok acc) fun i x acc s' hx _ hI => by
    obtain ⟨rfl, ha⟩ := hI
    obtain ⟨σ1, e1, e2⟩ := ht x (List.mem_of_getElem? hx) acc
    refine ⟨σ1, _, _, e1, e2, by rw [List.getElem?_append_right (Nat.le_refl _), Nat.sub_self]; rfl, by rw [List.set_append_right _ _ (Nat.le_refl _), Nat.sub_self]; rfl, ?_⟩
    rw [ha, take_succ_get hx, List.map_append, List.map_append]
    rfl
  rw [e1, e3, List.take_length]
/-- [.. for _ in range(n)], each element a new cell -/
theorem mLc_news {σ : Slots} {st st1 : Store} {it : MI} {f : ME} {k : Nat} (C : Cell) (n : Nat) (hn : n ≤ 1000) (hit : it σ st = .ok ⟨rangeA 0 n 1, fun _ => True⟩ st1)
    (hf : ∀ (v : Option A) s, f ((wipeA σ [k]).set k v) s = .ok (.c s.length) (s ++ [C])) :
    mLc true [k] (pt1 k) it mYes f σ st = .ok (.c st1.length) (st1 ++ .lst ((List.range n).map fun i => A.c (st1.length + 1 + i)) :: List.replicate n C) := by
  obtain ⟨acc, s', e1, _, e2, e3⟩ := mLc_cells (vs := [k]) (pt := pt1 k) (f := f)
    (fun i acc s' => s' = st1 ++ .lst acc :: List.replicate i C ∧ acc = (List.range i).map fun i => A.c (st1.length + 1 + i)) hit (by rw [rangeA_length]; unfold SZ; omega) ⟨rfl, rfl⟩ (fun _ _ _ _ => trivial) fun i x acc s' hx _ hI => by
      obtain ⟨rfl, ha⟩ := hI
      refine ⟨_, _, _, rfl, hf _ _, ?_, ?_, ?_⟩
      · rw [List.append_assoc, List.getElem?_append_right (Nat.le_refl _), Nat.sub_self]
        rfl
      · rw [List.append_assoc, List.set_append_right _ _ (Nat.le_refl _), Nat.sub_self]
        show st1 ++ (Cell.lst _ :: (List.replicate i C ++ [_])) = _
        rw [List.replicate_succ']
      · rw [ha, List.range_succ, List.map_append, List.length_append, List.length_cons, List.length_replicate]
        congr 1
        show [A.c (st1.length + (i + 1))] = [A.c (st1.length + 1 + i)]
        rw [show st1.length + (i + 1) = st1.length + 1 + i by omega]
  rw [e1, e2, e3, rangeA_length]
end Am
/-! ### Am: dicts -/
namespace Am
open PySem PySem.Spec PyProof.Rows L2
def mDNewK : ME := fun _ st => .ok (.c st.length) (st ++ [.dK []])
def mDNewT : ME := fun _ st => .ok (.c st.length) (st ++ [.dT []])
/-- what stands under a key, or what is told -/
def gDGet (o y z : A) (st : Store) : Res A := match viewK st o with
  | some kvs => match keyA y with
    | some k => .ok ((lookK kvs k).getD z) st
    | none => .no
  | none => match viewDT st o with
    | some kvs => match keysT y with
      | some k => .ok ((lookK kvs k).getD z) st
      | none => .no
    | none => .no
def isDA (st : Store) (o : A) : Bool := (viewK st o).isSome || (viewDT st o).isSome
def mDGet1 (fo fk : ME) : ME := fun σ st => (fo σ st).bind fun o st1 => if isDA st1 o then (fk σ st1).bind fun y st2 => gDGet o y (.d .non) st2 else .no
def mDGet2 (fo fk fz : ME) : ME := fun σ st => (fo σ st).bind fun o st1 => if isDA st1 o then (fk σ st1).bind fun y st2 => (fz σ st2).bind fun z st3 => gDGet o y z st3 else .no
/-- d.pop(k), which is there -/
def gDPop : A → A → Store → Res A
  | .c i, y, st => match st[i]? with
    | some (.dK xs) => match keyA y with
      | some k => match lookK xs k with
        | some a => .ok a (st.set i (.dK (dropA xs k)))
        | none => .no
      | none => .no
    | _ => .no
  | _, _, _ => .no
def mDPop (fo fk : ME) : ME := fun σ st => (fo σ st).bind fun o st1 => if isDA st1 o then (fk σ st1).bind fun y st2 => gDPop o y st2 else .no
section
variable {X : Cx} {c : Ctx} {W : WX} {o e f : Expr} {fo fk fz : ME} {k : Nat} {pos apos cpos : Pos}
theorem e_dnewK : PE X (.Dict [] [] pos) (tM c W mDNewK) := pe_imp pe_dnewK fun σ H Q ⟨w, σa, st, rl, p⟩ q hq =>
  p _ _ _ (by rw [List.length_append]; exact w.cell_ext st.length q) (rl.push (o := .dK []) (x := .dK []) hq ⟨rl.rs.same.free hq, [], upd_same, .nil⟩) ⟨by rw [List.length_append]; exact Nat.lt_succ_self _, by rw [w.cell_at]⟩
theorem e_dnewT : PE X (.Dict [] [] pos) (tM c W mDNewT) := pe_imp pe_dnewT fun σ H Q ⟨w, σa, st, rl, p⟩ q hq =>
  p _ _ _ (by rw [List.length_append]; exact w.cell_ext st.length q) (rl.push (o := .dT []) (x := .dT []) hq ⟨rl.rs.same.free hq, [], upd_same, .nil⟩) ⟨by rw [List.length_append]; exact Nat.lt_succ_self _, by rw [w.cell_at]⟩
theorem isDA_ok {w : Wd} {st : Store} {H : Hp} (rl : RelS c w st H) {x : A} {v : V} (r : RA c w st.length v x) (h : isDA st x = true) : ∃ a, v = .ref a ∧ IsD H a := by
  unfold isDA at h
  rw [Bool.or_eq_true, Option.isSome_iff_exists, Option.isSome_iff_exists] at h
  rcases h with ⟨kvs, h⟩ | ⟨kvs, h⟩
  · obtain ⟨a, us, rfl, q, _⟩ := viewK_ok rl r h
    exact ⟨a, rfl, .inl ⟨us, q⟩⟩
  · obtain ⟨a, us, rfl, q, _⟩ := viewDT_ok rl r h
    exact ⟨a, rfl, .inr ⟨us, q⟩⟩
theorem gDGet_ok {w : Wd} {σa : Slots} {st : Store} {σ : L2.St} {H : Hp} {x y z : A} {v u t : V} {Q : VK} (rl : Rel c w σa st σ H) (rx : RA c w st.length v x) (ry : RA c w st.length u y) (rz : RA c w st.length t z) (p : Post c w st.length σa σ (RA c) W Q (gDGet x y z st)) :
    ∃ a o, v = .ref a ∧ DGet H a u o ∧ Q (o.getD t) H := by
  unfold gDGet at p
  split at p
  · rename_i hv
    obtain ⟨a, us, rfl, q, pr⟩ := viewK_ok rl.rs rx hv
    split at p
    · rename_i kk hk
      have := keyA_ok ry hk
      subst this
      refine ⟨a, _, rfl, dget_k q, p.here rl ?_⟩
      obtain ⟨l1, l2⟩ := lookK_ok (k := kk) pr
      cases hl : lookK _ kk with
      | none => rw [l1 hl]; exact rz
      | some b => obtain ⟨v, e, r⟩ := l2 b hl; rw [e]; exact r
    · exact p.elim
  · split at p
    · rename_i hv
      obtain ⟨a, us, rfl, q, pr⟩ := viewDT_ok rl.rs rx hv
      split at p
      · rename_i kk hk
        obtain ⟨b, rfl, eb⟩ := keysT_ok rl.rs.same ry hk
        refine ⟨a, _, rfl, dget_t q eb, p.here rl ?_⟩
        obtain ⟨l1, l2⟩ := lookK_ok (k := kk) pr
        cases hl : lookK _ kk with
        | none => rw [l1 hl]; exact rz
        | some b => obtain ⟨v, e, r⟩ := l2 b hl; rw [e]; exact r
      · exact p.elim
    · exact p.elim
theorem e_dget1 (hr : Room k X.A) (ho : PE X o (tM c W fo)) (he : PE X e (tM c W fk)) (m : M1 X o "get" apos e cpos := by exact ⟨rfl, rfl, rfl, rfl⟩) : PE X (.Call (.Attribute o "get" apos) [e] [] cpos) (tM c W (mDGet1 fo fk)) :=
  pe_imp (pe_dget1 (hu_of hr) ho he m) fun σ H Q ⟨w, σa, st, rl, p⟩ => ⟨w, σa, st, rl, p.bind fun v x st1 w1 H1 _ rl1 rx p1 => by
    split at p1
    · rename_i hd
      obtain ⟨a, rfl, q⟩ := isDA_ok rl1.rs rx hd
      refine ⟨a, rfl, q, w1, σa, st1, rl1, p1.bind fun u y st2 w2 H2 e2 rl2 ry p2 => ?_⟩
      obtain ⟨a', o, e, g, q⟩ := gDGet_ok (t := .non) (z := .d .non) rl2 (rx.ext e2) ry rfl p2
      cases e
      exact ⟨o, g, q⟩
    · exact p1.elim⟩
theorem e_dget2 (hr : Room k X.A) (ho : PE X o (tM c W fo)) (he : PE X e (tM c W fk)) (hf : PE X f (tM c W fz)) (m : M2 X o "get" apos e f cpos := by exact ⟨rfl, rfl, rfl, rfl⟩) : PE X (.Call (.Attribute o "get" apos) [e, f] [] cpos) (tM c W (mDGet2 fo fk fz)) :=
  pe_imp (pe_dget2 (hu_of hr) ho he hf m) fun σ H Q ⟨w, σa, st, rl, p⟩ => ⟨w, σa, st, rl, p.bind fun v x st1 w1 H1 _ rl1 rx p1 => by
    split at p1
    · rename_i hd
      obtain ⟨a, rfl, q⟩ := isDA_ok rl1.rs rx hd
      refine ⟨a, rfl, q, w1, σa, st1, rl1, p1.bind fun u y st2 w2 H2 e2 rl2 ry p2 => ⟨w2, σa, st2, rl2, p2.bind fun t z st3 w3 H3 e3 rl3 rz p3 => ?_⟩⟩
      obtain ⟨a', o, e, g, q⟩ := gDGet_ok rl3 ((rx.ext e2).ext e3) (ry.ext e3) rz p3
      cases e
      exact ⟨o, g, q⟩
    · exact p1.elim⟩
theorem e_dpop1 (ho : PE X o (tM c W fo)) (he : PE X e (tM c W fk)) (m : M1 X o "pop" apos e cpos := by exact ⟨rfl, rfl, rfl, rfl⟩) : PE X (.Call (.Attribute o "pop" apos) [e] [] cpos) (tM c W (mDPop fo fk)) :=
  pe_imp (pe_dpop1 ho he m) fun σ H Q ⟨w, σa, st, rl, p⟩ => ⟨w, σa, st, rl, p.bind fun v x st1 w1 H1 _ rl1 rx p1 => by
    split at p1
    · rename_i hd
      obtain ⟨a, rfl, q⟩ := isDA_ok rl1.rs rx hd
      refine ⟨a, rfl, q, w1, σa, st1, rl1, p1.bind fun u y st2 w2 H2 e2 rl2 ry p2 => ?_⟩
      unfold gDPop at p2
      split at p2
      · split at p2
        · rename_i hk
          obtain ⟨g, us, e, pr⟩ := rl2.rs.cell _ _ hk
          split at p2
          · rename_i kk hy
            have := keyA_ok ry hy
            subst this
            split at p2
            · rename_i b hl
              obtain ⟨v, ev, rv⟩ := (lookK_ok pr).2 b hl
              obtain ⟨_, ea⟩ := rx.ext e2
              cases ea
              refine ⟨us, kk, v, e, rfl, ev, p2 _ w2 _ (by rw [List.length_set]; exact Ext.refl _ _) (rl2.write hk g ⟨g, _, upd_same, dropA_ok pr⟩) (by rw [List.length_set]; exact rv)⟩
            · exact p2.elim
          · exact p2.elim
        · exact p2.elim
      · exact p2.elim
    · exact p1.elim⟩
end
/-! as steps -/
section
variable (σ : Slots) (st : Store)
theorem mDNewK_ap : mDNewK σ st = .ok (.c st.length) (st ++ [.dK []]) := rfl
theorem mDNewT_ap : mDNewT σ st = .ok (.c st.length) (st ++ [.dT []]) := rfl
def dgC (x : Option Cell) (y z : A) (st : Store) : Res A := match x with
  | some (.dK kvs) => match keyA y with
    | some k => .ok ((lookK kvs k).getD z) st
    | none => .no
  | some (.dT kvs) => match keysT y with
    | some k => .ok ((lookK kvs k).getD z) st
    | none => .no
  | _ => .no
theorem mDGet1_c {fo fk : ME} {i : Nat} {y : A} {st1 : Store} {kvs : List (Key × A)} (ho : fo σ st = .ok (.c i) st) (hi : st[i]? = some (.dK kvs)) (hk : fk σ st = .ok y st1) (hi1 : st1[i]? = some (.dK kvs)) {k : Key} (hy : keyA y = some k) : mDGet1 fo fk σ st = .ok ((lookK kvs k).getD (.d .non)) st1 := by
  unfold mDGet1
  rw [ho]
  show (if isDA st (.c i) then _ else _) = _
  rw [show isDA st (.c i) = true by unfold isDA viewK; simp only [hi]; rfl, if_pos rfl, hk]
  show gDGet (.c i) y (.d .non) st1 = _
  unfold gDGet viewK
  simp only [hi1, hy]
end
/-! a store into a place, by what the cell holds -/
noncomputable def subC (x : Option Cell) (k : Nat) (j : Int) (a : A) (σ : Slots) (st : Store) : Option (Slots × Store) := match x with
  | some (.lst xs) => match ixN xs.length j with
    | some n => some (σ, st.set k (.lst (xs.set n a)))
    | none => none
  | some (.dK xs) => match gSet (.c k) (.d (.int j)) a st with
    | some st3 => some (σ, st3)
    | none => none
  | _ => none
theorem sub3_c (k : Nat) (j : Int) (a : A) (σ : Slots) (st : Store) : sub3 (.c k) (.d (.int j)) a σ st = subC st[k]? k j a σ st := by
  unfold sub3
  show (match gSet (.c k) (.d (.int j)) a st with | some st3 => some (σ, st3) | none => none) = _
  cases h : st[k]? with
  | none => unfold gSet subC; simp only [h]
  | some x => cases x with
    | lst xs =>
      unfold gSet subC
      simp only [h]
      cases ixN xs.length j <;> rfl
    | dK xs => rfl
    | dT xs => unfold gSet subC; simp only [h, keysT]
    | _ => unfold gSet subC; simp only [h]
theorem subC_l (xs : List A) (k : Nat) (j : Int) (a : A) (σ : Slots) (st : Store) : subC (some (.lst xs)) k j a σ st = match ixN xs.length j with
    | some n => some (σ, st.set k (.lst (xs.set n a)))
    | none => none := rfl
theorem need_T {α : Type} (r : Res α) : need True r = r := need_pos trivial
theorem ifc_T {α : Sort _} (a b : α) : ifc True a b = a := ifc_pos trivial
theorem needO_T (o : Out) : needO True o = o := needO_pos trivial
theorem ix4_1 : ixN 4 1 = some 1 := by decide
theorem ix4_2 : ixN 4 2 = some 2 := by decide
theorem ix4_3 : ixN 4 3 = some 3 := by decide
/-! try, folded -/
def tryO (isE : Str → Str → Option Bool) (y : Str) (o : Out) (s : MS) : Out := match o with
  | .ex x σ1 st1 => match isE x.cls y with
    | some true => noExO (s σ1 st1)
    | some false => .ex x σ1 st1
    | none => .no
  | o => o
def tryB (b : Option Bool) (x : Exn) (s : MS) (σ1 : Slots) (st1 : Store) : Out := match b with
  | some true => noExO (s σ1 st1)
  | some false => .ex x σ1 st1
  | none => .no
theorem mTry_ap (isE : Str → Str → Option Bool) (y : Str) (b s : MS) (σ : Slots) (st : Store) : mTry isE y b s σ st = tryO isE y (b σ st) s := by
  unfold mTry tryO
  cases b σ st <;> rfl
theorem tryO_ex (isE : Str → Str → Option Bool) (y z : Str) (fs : Option (List (Str × D))) (σ1 : Slots) (st1 : Store) (s : MS) : tryO isE y (.ex ⟨z, fs⟩ σ1 st1) s = tryB (isE z y) ⟨z, fs⟩ s σ1 st1 := by
  unfold tryO tryB
  rfl
theorem tryB_t (x : Exn) (s : MS) (σ1 : Slots) (st1 : Store) : tryB (some true) x s σ1 st1 = noExO (s σ1 st1) := rfl
theorem tryO_nx (isE : Str → Str → Option Bool) (y : Str) (σ1 : Slots) (st1 : Store) (s : MS) : tryO isE y (.nx σ1 st1) s = .nx σ1 st1 := rfl
theorem tryO_rt (isE : Str → Str → Option Bool) (y : Str) (a : A) (st1 : Store) (s : MS) : tryO isE y (.rt a st1) s = .rt a st1 := rfl
theorem noExO_nx (σ1 : Slots) (st1 : Store) : noExO (.nx σ1 st1) = .nx σ1 st1 := rfl
theorem noExO_rt (a : A) (st1 : Store) : noExO (.rt a st1) = .rt a st1 := rfl
end Am
/-! ### Am: sorted of ints, list of a dict -/
namespace Am
open PySem PySem.Spec PyProof.Rows L2
def insI (x : Int) : List Int → List Int
  | [] => [x]
  | y :: ys => if x ≤ y then x :: y :: ys else y :: insI x ys
def isort : List Int → List Int
  | [] => []
  | x :: xs => insI x (isort xs)
theorem insI_perm (x : Int) : ∀ ys : List Int, (insI x ys).Perm (x :: ys)
  | [] => .refl _
  | y :: ys => by
    unfold insI
    split
    · exact .refl _
    · exact ((insI_perm x ys).cons y).trans (.swap x y ys)
theorem isort_perm : ∀ xs : List Int, (isort xs).Perm xs
  | [] => .refl _
  | x :: xs => (insI_perm x _).trans ((isort_perm xs).cons x)
theorem insI_ord (x : Int) : ∀ ys : List Int, ys.Pairwise (· ≤ ·) → (insI x ys).Pairwise (· ≤ ·)
  | [], _ => List.pairwise_singleton _ _
  | y :: ys, h => by
    unfold insI
    split
    · rename_i hxy
      refine .cons (fun z hz => ?_) h
      rcases List.mem_cons.mp hz with rfl | hz
      · exact hxy
      · exact Int.le_trans hxy (List.rel_of_pairwise_cons h hz)
    · rename_i hxy
      cases h with
      | cons h1 h2 =>
        refine .cons (fun z hz => ?_) (insI_ord x ys h2)
        rcases List.mem_cons.mp ((insI_perm x ys).mem_iff.mp hz) with rfl | hz
        · omega
        · exact h1 z hz
theorem isort_ord : ∀ xs : List Int, (isort xs).Pairwise (· ≤ ·)
  | [] => .nil
  | x :: xs => insI_ord x _ (isort_ord xs)
theorem sorted_eq : ∀ {xs ys : List Int}, xs.Perm ys → xs.Pairwise (· ≤ ·) → ys.Pairwise (· ≤ ·) → xs = ys
  | [], ys, p, _, _ => (List.nil_perm.mp p).symm
  | x :: xs, [], p, _, _ => by cases List.perm_nil.mp p
  | x :: xs, y :: ys, p, h1, h2 => by
    have hxy : x = y := by
      have a1 : y ∈ x :: xs := p.mem_iff.mpr List.mem_cons_self
      have a2 : x ∈ y :: ys := p.mem_iff.mp List.mem_cons_self
      have b1 : x ≤ y := by
        rcases List.mem_cons.mp a1 with e | e
        · omega
        · exact List.rel_of_pairwise_cons h1 e
      have b2 : y ≤ x := by
        rcases List.mem_cons.mp a2 with e | e
        · omega
        · exact List.rel_of_pairwise_cons h2 e
      omega
    subst hxy
    cases h1 with
    | cons _ h1 => cases h2 with
      | cons _ h2 => rw [sorted_eq (List.Perm.cons_inv p) h1 h2]
theorem isort_uniq {xs ys : List Int} (p : ys.Perm xs) (h : ys.Pairwise (· ≤ ·)) : ys = isort xs := sorted_eq (p.trans (isort_perm xs).symm) h (isort_ord xs)
theorem isort_len (xs : List Int) : (isort xs).length = xs.length := (isort_perm xs).length_eq
def intsA : List A → Option (List Int)
  | [] => some []
  | .d (.int i) :: r => (intsA r).map (i :: ·)
  | _ :: _ => none
theorem intsA_map : ∀ ns : List Int, intsA ((ns.map D.int).map A.d) = some ns
  | [] => rfl
  | n :: ns => by show (intsA ((ns.map D.int).map A.d)).map (n :: ·) = _; rw [intsA_map ns]; rfl
def intsK {α : Type} : List (Key × α) → Option (List Int)
  | [] => some []
  | (.inl i, _) :: r => (intsK r).map (i :: ·)
  | _ :: _ => none
theorem intsK_map {α : Type} (f : α → Int) {β : Type} (g : α → β) : ∀ xs : List α, intsK (xs.map fun x => ((.inl (f x) : Key), g x)) = some (xs.map f)
  | [] => rfl
  | x :: xs => by show (intsK (xs.map fun x => ((.inl (f x) : Key), g x))).map (f x :: ·) = _; rw [intsK_map f g xs]; rfl
theorem intsK_keys {α : Type} : ∀ {xs : List (Key × α)} {ns : List Int}, intsK xs = some ns → xs.map (·.1) = ns.map Sum.inl
  | [], _, h => by cases h; rfl
  | (.inl i, _) :: r, ns, h => by
    unfold intsK at h
    obtain ⟨ms, h1, rfl⟩ := Option.map_eq_some_iff.mp h
    rw [List.map_cons, List.map_cons, intsK_keys h1]
  | (.inr _, _) :: _, _, h => by cases h
/-- sorted(xs), sorted(d): ints -/
noncomputable def gSorted (k : Bool) : GC
  | [a], st => match viewS st a with
    | some xs => match intsA xs with
      | some ns => mkL k (((isort ns).map D.int).map A.d) st
      | none => .no
    | none => match viewK st a with
      | some kvs => match intsK kvs with
        | some ns => ifc (ns.length < 64) (mkL k (((isort ns).map D.int).map A.d) st) .no
        | none => .no
      | none => .no
  | _, _ => .no
/-- list(d): its keys, else list(xs) -/
noncomputable def gListD (k : Bool) : GC
  | [a], st => match viewK st a with
    | some kvs => mkL k ((kvs.map fun p => kD p.1).map A.d) st
    | none => gListOf k [a] st
  | _, _ => .no
section
variable {c : Ctx} {w : Wd} {n : Nat} {σa : Slots} {st : Store} {σ : L2.St} {H : Hp} {W : WX}
theorem intsA_ok {vs : List V} : ∀ {xs : List A} {ns : List Int}, Paired (RA c w n) vs xs → intsA xs = some ns → vs = ns.map V.int := by
  intro xs ns h
  induction h generalizing ns with
  | nil => intro e; cases e; rfl
  | @cons v a vs as r _ ih =>
    intro e
    cases a with
    | c i => cases e
    | d x => cases x with
      | int i =>
        unfold intsA at e
        obtain ⟨ms, h1, rfl⟩ := Option.map_eq_some_iff.mp e
        rw [ih h1, show v = V.int i from r]
        rfl
      | _ => cases e
theorem ras_ints (ns : List Int) : Paired (RA c w n) (ns.map V.int) ((ns.map D.int).map A.d) := by
  induction ns with
  | nil => exact .nil
  | cons i ns ih => exact .cons rfl ih
theorem ras_keys (ks : List Key) : Paired (RA c w n) (ks.map kV) ((ks.map kD).map A.d) := by
  induction ks with
  | nil => exact .nil
  | cons k ks ih => exact .cons (by cases k <;> rfl) ih
theorem kd_keys {κ β γ : Type} {R : β → γ → Prop} {us : List (κ × β)} {xs : List (κ × γ)} (h : Paired (KD R) us xs) : us.map (·.1) = xs.map (·.1) := by
  induction h with
  | nil => rfl
  | cons r _ ih => rw [List.map_cons, List.map_cons, ih, r.1]
def rSortDI : List V → Hp → VK → Prop := fun xs H Q => ∃ (a : Addr) (kvs : List (Key × V)) (ks : List Int), xs = [.ref a] ∧ Rd H a (.dK kvs) ∧ kvs.map (·.1) = ks.map Sum.inl ∧ ks.length < 64 ∧
    ∀ (ys : List Int) (p : Addr), ys.Perm ks → ys.Pairwise (· ≤ ·) → H p = none → Q (.ref p) (upd H p (.lst (ys.map V.int)))
def rListD : List V → Hp → VK → Prop := fun xs H Q => ∃ (a : Addr) (kvs : List (Key × V)), xs = [.ref a] ∧ Rd H a (.dK kvs) ∧ ∀ p, H p = none → Q (.ref p) (upd H p (.lst (kvs.map fun kv => kV kv.1)))
theorem gSorted_ok (k : Bool) : CallA c (fun xs H Q => rSortedI c.K xs H Q ∨ rSortDI xs H Q) (gSorted k) := by
  intro w σa st σ H xs vs W Q rl rxs p
  unfold gSorted at p
  split at p
  · obtain ⟨v, rfl, rx⟩ := pr1 rxs
    split at p
    · rename_i hv
      split at p
      · rename_i ns hn
        obtain ⟨a, us, rfl, q, pr⟩ := viewS_ok rl.rs rx hv
        have := intsA_ok pr hn
        subst this
        refine .inl ⟨a, ns, rfl, q, fun ns' pp hp ho hf => ?_⟩
        rw [isort_uniq hp ho]
        exact (mkL_ok rl (ras_ints _) p).2 pp hf
      · exact p.elim
    · split at p
      · rename_i hv
        split at p
        · rename_i ns hn
          unfold ifc at p
          split at p
          · rename_i h64
            obtain ⟨a, us, rfl, q, pr⟩ := viewK_ok rl.rs rx hv
            refine .inr ⟨a, us, ns, rfl, q, (kd_keys pr).trans (intsK_keys hn), h64, fun ns' pp hp ho hf => ?_⟩
            rw [isort_uniq hp ho]
            exact (mkL_ok rl (ras_ints _) p).2 pp hf
          · exact p.elim
        · exact p.elim
      · exact p.elim
  · exact p.elim
theorem gListD_ok (k : Bool) : CallA c (fun xs H Q => (∃ p ys, xs = [.ref p] ∧ (SqL c.K H p ys ∨ SqT c.K H p ys) ∧ ∀ l, H l = none → Q (.ref l) (upd H l (.lst ys))) ∨ rListD xs H Q) (gListD k) := by
  intro w σa st σ H xs vs W Q rl rxs p
  unfold gListD at p
  split at p
  · obtain ⟨v, e, rx⟩ := pr1 rxs
    split at p
    · rename_i hv
      subst e
      obtain ⟨a, us, rfl, q, pr⟩ := viewK_ok rl.rs rx hv
      refine .inr ⟨a, us, rfl, q, fun l hl => ?_⟩
      have e : us.map (fun kv => kV kv.1) = (us.map (·.1)).map kV := by rw [List.map_map]; rfl
      have e2 : ∀ (kvs : List (Key × A)), (kvs.map fun p => kD p.1) = (kvs.map (·.1)).map kD := fun kvs => by rw [List.map_map]; rfl
      rw [e2] at p
      rw [e, kd_keys pr]
      exact (mkL_ok rl (ras_keys _) p).2 l hl
    · exact .inl (gListOf_ok k _ _ _ _ _ _ _ _ _ rl rxs p)
  · exact p.elim
variable {X : Cx} {e : Expr} {fs : MA} {p pos : Pos}
theorem e_sorted (k : Bool) (hcalm : X.calm = true) (ha : PA X (e :: []) (tMA c W fs)) (hm : c.mg "sorted" = none) (hgl : Gl X "sorted" := by rfl) (F : Fits X c := by exact ⟨rfl, rfl⟩) (he : starEach (e :: []) X.env = (false, eval e X.env) :: starEach [] X.env := by rfl) (hpl : (backTo pos (starEach [] X.env)).any (·.1) = false := by rfl) : PE X (.Call (.Name "sorted" p) [e] [] pos) (tM c W (mCallB (gSorted k) fs)) := by
  refine e_callB (id := "sorted") (r := fun xs H Q => rSortedI c.K xs H Q ∨ rSortDI xs H Q) ?_ (gSorted_ok k) hgl hm (by decide +kernel) ha F (by decide) (by decide) he hpl
  rw [← F.K]
  exact CallR.or cr_sortedI (call_sortedDI hcalm)
theorem e_listD (k : Bool) (hcalm : X.calm = true) (ha : PA X (e :: []) (tMA c W fs)) (hm : c.mg "list" = none) (hgl : Gl X "list" := by rfl) (F : Fits X c := by exact ⟨rfl, rfl⟩) (he : starEach (e :: []) X.env = (false, eval e X.env) :: starEach [] X.env := by rfl) (hpl : (backTo pos (starEach [] X.env)).any (·.1) = false := by rfl) : PE X (.Call (.Name "list" p) [e] [] pos) (tM c W (mCallB (gListD k) fs)) := by
  refine e_callTy (T := "list") (r := fun xs H Q => (∃ p ys, xs = [.ref p] ∧ (SqL c.K H p ys ∨ SqT c.K H p ys) ∧ ∀ l, H l = none → Q (.ref l) (upd H l (.lst ys))) ∨ rListD xs H Q) ?_ (gListD_ok k) hgl hm (by decide +kernel) ha F (by decide) (by decide) he hpl
  rw [← F.K]
  exact CallR.or call_list_of (call_listD hcalm)
end
end Am
/-! ### Am: dict comprehensions, enumerate -/
namespace Am
open PySem PySem.Spec PyProof.Rows L2
noncomputable def dcA (pt : Pt) (t : MT) (fk fv : ME) (n : Nat) (ok : Store → Prop) (σ : Slots) : List A → Store → Res Unit
  | [], st => need (ok st) (.ok () st)
  | x :: r, st => need (ok st) (match pt σ x with
    | none => .no
    | some σ1 => (noEx (t σ1 st)).bind fun b st1 => if b then (noEx (fk σ1 st1)).bind fun y st2 => (noEx (fv σ1 st2)).bind fun z st3 => match st3[n]? with
        | some (.dK acc) => match keyA y with
          | some k => ifc (acc.length < SZ) (dcA pt t fk fv n ok σ r (st3.set n (.dK (putA acc k z)))) .no
          | none => .no
        | _ => .no
      else dcA pt t fk fv n ok σ r st1)
noncomputable def mDc (vs : List Nat) (pt : Pt) (it : MI) (t : MT) (fk fv : ME) : ME := fun σ st => (it σ st).bind fun wk st1 => (dcA pt t fk fv st1.length wk.ok (wipeA σ vs) wk.items (st1 ++ [.dK []])).bind fun _ st2 => .ok (.c st1.length) st2
section
variable {c : Ctx} {w w1 : Wd} {n : Nat} {σa : Slots} {st st1 : Store} {σ : L2.St} {H : Hp} {W : WX}
theorem entail_dc {vs : List Nat} {pt : Pt} {g : TG} {it : MI} {t : MT} {fk fv : ME} (hp : PtOk c vs pt g) (σ : L2.St) (H : Hp) (Q : VK) : tM c W (mDc vs pt it t fk fv) σ H Q → tDc (tMI c W it) g (tT c W0 t) (tM c W0 fk) (tM c W0 fv) vs σ H Q := fun ⟨w, σa, st, rl, p⟩ =>
  ⟨w, σa, st, rl, p.bind fun J wk st1 w1 H1 e1 rl1 hk p1 D hD => by
    let wD := w1.cell st1.length D
    have rlD : Rel c wD σa (st1 ++ [.dK []]) σ (upd H1 D (.dK [])) := rl1.push (o := .dK []) hD ⟨rl1.rs.same.free hD, [], upd_same, .nil⟩
    have extD : Ext w1 st1.length wD (st1.length + 1) := w1.cell_ext st1.length D
    have lenD : (st1 ++ [Cell.dK []]).length = st1.length + 1 := by rw [List.length_append]; rfl
    have atD : ∀ {w' : Wd} {n' : Nat}, Ext wD (st1.length + 1) w' n' → w'.E st1.length = D := fun e => (e.cells _ (Nat.lt_succ_self _)).trans (w1.cell_at _ _)
    have p2 := p1
    refine ⟨fun i m H' => ∃ w' st', m = wk.items.length - i ∧ i ≤ wk.items.length ∧ Ext wD (st1.length + 1) w' st'.length ∧ Rel c w' σa st' σ H' ∧ Post c w1 st1.length σa σ (RA c) W Q ((dcA pt t fk fv st1.length wk.ok (wipeA σa vs) (wk.items.drop i) st').bind fun _ st2 => .ok (.c st1.length) st2),
      ⟨_, wD, _, rfl, Nat.zero_le _, by rw [lenD]; exact Ext.refl _ _, rlD, p2⟩, ?_⟩
    rintro i m H2 ⟨w2, st2, rfl, hi, e2, rl2, p2⟩
    by_cases hlt : i < wk.items.length
    · have hx : wk.items[i]? = some wk.items[i] := List.getElem?_eq_getElem hlt
      rw [List.drop_eq_getElem_cons hlt, dcA] at p2
      obtain ⟨ok, p2⟩ := bind_need p2
      obtain ⟨go, yl⟩ := (hk w2 st2 H2 (extD.trans e2) rl2.rs ok).2 i _ hx
      refine .inr ⟨go, fun H' => ∃ w' st', Ext wD (st1.length + 1) w' st'.length ∧ Rel c w' σa st' σ H' ∧ Post c w1 st1.length σa σ (RA c) W Q ((dcA pt t fk fv st1.length wk.ok (wipeA σa vs) (wk.items.drop (i + 1)) st').bind fun _ st2 => .ok (.c st1.length) st2),
        fun H' ⟨w', st', q⟩ => ⟨wk.items.length - (i + 1), by omega, w', st', rfl, hlt, q⟩, fun v H3 y => ?_⟩
      obtain ⟨w3, e3, rl3, ra⟩ := yl v H3 y σa σ rl2
      split at p2
      · exact p2.elim
      · rename_i σ1 hpt
        refine hp w3 σa σ1 st2 σ H3 _ v _ (rl3.wipe vs) ra hpt fun σ' rl4 hw => ⟨hw, w3, σ1, st2, rl4, ?_⟩
        cases ht : t σ1 st2 with
        | no => rw [ht] at p2; exact p2.elim
        | ex _ _ => rw [ht] at p2; exact p2.elim
        | ok b st3 =>
          rw [ht] at p2
          intro b' w4 H4 e4 rl5 hb
          subst hb
          have rl5b : Rel c w4 σa st3 σ H4 := rl3.of e4 rl5.rs
          cases b' with
          | false => exact iteF ⟨w4, st3, (e2.trans e3).trans e4, rl5b, p2⟩
          | true =>
            refine iteT ⟨w4, σ1, st3, rl5, ?_⟩
            have p2 : Post c w1 st1.length σa σ (RA c) W Q (((noEx (fk σ1 st3)).bind fun y st2 => (noEx (fv σ1 st2)).bind fun z st3 => match st3[st1.length]? with
        | some (.dK acc) => match keyA y with
          | some k => ifc (acc.length < SZ) (dcA pt t fk fv st1.length wk.ok (wipeA σa vs) (wk.items.drop (i + 1)) (st3.set st1.length (.dK (putA acc k z)))) .no
          | none => .no
        | _ => .no).bind fun _ st2 => .ok (.c st1.length) st2) := p2
            cases hf : fk σ1 st3 with
            | no => rw [hf] at p2; exact p2.elim
            | ex _ _ => rw [hf] at p2; exact p2.elim
            | ok y st4 =>
              rw [hf] at p2
              intro u w5 H5 e5 rl6 ru
              have rl6b : Rel c w5 σa st4 σ H5 := rl5b.of e5 rl6.rs
              refine ⟨w5, σ1, st4, rl6, ?_⟩
              have p2 : Post c w1 st1.length σa σ (RA c) W Q (((noEx (fv σ1 st4)).bind fun z st3 => match st3[st1.length]? with
        | some (.dK acc) => match keyA y with
          | some k => ifc (acc.length < SZ) (dcA pt t fk fv st1.length wk.ok (wipeA σa vs) (wk.items.drop (i + 1)) (st3.set st1.length (.dK (putA acc k z)))) .no
          | none => .no
        | _ => .no).bind fun _ st2 => .ok (.c st1.length) st2) := p2
              cases hf2 : fv σ1 st4 with
              | no => rw [hf2] at p2; exact p2.elim
              | ex _ _ => rw [hf2] at p2; exact p2.elim
              | ok z st5 =>
                rw [hf2] at p2
                intro u2 w6 H6 e6 rl7 ru2
                have p2 : Post c w1 st1.length σa σ (RA c) W Q ((match st5[st1.length]? with
        | some (.dK acc) => match keyA y with
          | some k => ifc (acc.length < SZ) (dcA pt t fk fv st1.length wk.ok (wipeA σa vs) (wk.items.drop (i + 1)) (st5.set st1.length (.dK (putA acc k z)))) .no
          | none => .no
        | _ => .no).bind fun _ st2 => .ok (.c st1.length) st2) := p2
                have ex := (((e2.trans e3).trans e4).trans e5).trans e6
                have rl7b : Rel c w6 σa st5 σ H6 := rl6b.of e6 rl7.rs
                split at p2
                · rename_i acc hacc
                  split at p2
                  · rename_i kk hkk
                    unfold ifc at p2
                    split at p2
                    · rename_i hl
                      obtain ⟨g, us, eu, pr⟩ := rl7.rs.cell _ _ hacc
                      have rw5 := rl7b.write (y := .dK (putA acc kk z)) (o := .dK (putK us kk u2)) hacc g ⟨g, _, upd_same, putA_ok ru2 pr⟩
                      rw [atD ex] at eu rw5
                      exact ⟨us, kk, keyA_ok ru hkk, eu, by rw [pr.length]; exact Nat.lt_of_lt_of_le hl (by decide), w6, _, by rw [List.length_set]; exact ex, rw5, p2⟩
                    · exact p2.elim
                  · exact p2.elim
                · exact p2.elim
    · have e : i = wk.items.length := by omega
      subst e
      rw [List.drop_length, dcA] at p2
      obtain ⟨ok, p2⟩ := bind_need p2
      refine .inl ⟨(hk w2 st2 H2 (extD.trans e2) rl2.rs ok).1, ?_⟩
      have hD2 := atD e2
      have hl2 : st1.length < st2.length := by have := e2.le; omega
      exact p2 _ _ _ (extD.trans e2) rl2 ⟨hl2, by rw [hD2]⟩⟩
end
section
variable {X : Cx} {c : Ctx} {W : WX} {kx vx tg iter e : Expr} {ifs : List Expr} {scope : Scope} {own : List (Str × Nat)} {pos p tpos : Pos} {pt : Pt} {g : TG} {it : MI} {t : MT} {fk fv : ME} {fs : MA} {elts : List Expr} {kk : Nat}
theorem e_dc (hp : PtOk c (own.map (·.2)) pt g) (hc : X.calm = true) (hN : X.N.Nodup) (hi : PI X tg iter (tMI c W it)) (ok : BlkOk X.N X.env.scope scope own)
    (hg : ∀ (s : Shared) (H : Hp) (C : Addr) (cl : List (Str × Addr)) (fp : List Addr), PG (X.blk s H scope (compEnvC scope cl C X.env) fp) tg g) (ht : ∀ (s : Shared) (H : Hp) (C : Addr) (cl : List (Str × Addr)) (fp : List Addr), PTs (X.blk s H scope (compEnvC scope cl C X.env) fp) ifs (tT c W0 t))
    (hk : ∀ (s : Shared) (H : Hp) (C : Addr) (cl : List (Str × Addr)) (fp : List Addr), PE (X.blk s H scope (compEnvC scope cl C X.env) fp) kx (tM c W0 fk))
    (he : ∀ (s : Shared) (H : Hp) (C : Addr) (cl : List (Str × Addr)) (fp : List Addr), PE (X.blk s H scope (compEnvC scope cl C X.env) fp) vx (tM c W0 fv)) (hs : ∀ x, foldedSetIterable iter X.env x = pure x := by intro _; rfl) :
    PE X (.DictComp kx vx [⟨tg, iter, ifs, 0⟩] scope pos) (tM c W (mDc (own.map (·.2)) pt it t fk fv)) := pe_imp (pe_dc hc hN hi ok hg ht hk he hs) (entail_dc hp)
theorem sw_trueD {l : Nat} {env : Env} {y : Str} {py : Pos} {gs : List Comprehension} (hk : env.scope.kind = .function) (hy : env.scope.names.lookup y = some .local) (hl : (py.line == pos.line) = true)
    (ha : (scope.names.any fun (n, k) => n == y && (k == .local || k == .cell)) = false) : swapsWith (.DictComp kx vx gs scope pos) (some (.Name y py)) l env = pure true := by
  have ky : env.kindOf y = some .local := hy
  have hb : env.blockKind = .function := by unfold Env.blockKind; rw [hk]; rfl
  unfold swapsWith
  simp only [hb, ky, ha, Expr.pos, hl]
  rfl
/-- name = {k: v for ..} on one line, the name a local -/
theorem ps_setDc {i : Nat} {y : Str} {py spos : Pos} {wi : TI} {tt : TT} {tk tv : TE} (hc : X.calm = true) (hN : X.N.Nodup) (hy : X.N[i]? = some y) (hyl : X.env.scope.names.lookup y = some .local)
    (hsw : swapsWith (.DictComp kx vx [⟨tg, iter, ifs, 0⟩] scope pos) (some (.Name y py)) spos.line X.env = pure true) (hi : PI X tg iter wi) (ok : BlkOk X.N X.env.scope scope own)
    (hg : ∀ (s : Shared) (H : Hp) (C : Addr) (cl : List (Str × Addr)) (fp : List Addr), PG (X.blk s H scope (compEnvC scope cl C X.env) fp) tg g) (ht : ∀ (s : Shared) (H : Hp) (C : Addr) (cl : List (Str × Addr)) (fp : List Addr), PTs (X.blk s H scope (compEnvC scope cl C X.env) fp) ifs tt)
    (hk : ∀ (s : Shared) (H : Hp) (C : Addr) (cl : List (Str × Addr)) (fp : List Addr), PE (X.blk s H scope (compEnvC scope cl C X.env) fp) kx tk)
    (he : ∀ (s : Shared) (H : Hp) (C : Addr) (cl : List (Str × Addr)) (fp : List Addr), PE (X.blk s H scope (compEnvC scope cl C X.env) fp) vx tv) (hs : ∀ x, foldedSetIterable iter X.env x = pure x := by intro _; rfl) :
    PS X (.Assign [.Name y py] (.DictComp kx vx [⟨tg, iter, ifs, 0⟩] scope pos) spos) (tAsg (tDc wi g tt tk tv (own.map (·.2))) (gName i)) := by
  refine ⟨fun pins s σ H D I h => ?_⟩
  rw [exec_Assign_Name_used _ _ _ _ hsw]
  refine wpAny_bind (wpAny_standAt (wpAny_bind ?_))
  show wpAny _ X.A (do let _ ← comprehension (.DictComp kx vx [⟨tg, iter, ifs, 0⟩] scope pos) scope X.env (firstIterPos [⟨tg, iter, ifs, 0⟩] pos) newDict false (eval iter X.env) (some (assign (.Name y py) X.env))) _ _ s
  have h : tDc wi g tt tk tv (own.map (·.2)) σ H (fun x H1 => gName i x σ H1 D.nx) := h
  refine wpAny_bind (thn (dc_core (Qf := fun _ s' => SP X pins D .next s') hc hN I hi ok hg ht hk he hs h fun L C s' m H' I' q hn f => ?_) fun _ s' hq => wpAny_pure (wpAny_pure hq))
  show wpAny _ _ (assign (.Name y py) X.env (.ref L)) _ _ _
  refine wpAny_assign_Name (store_ok2 (v := V.ref L) I' hN hy (.inl hyl) rfl (fun s2 I2 ⟨a, sb, ha⟩ => ?_) (.inr hyl))
  obtain ⟨f0, f1, f2, f3, f4, f5⟩ := f
  have haC : C ≠ a := by
    rcases ha with z | z
    · rw [z]; exact f1
    · exact fun e => f4 y a z e.symm
  refine ⟨m, hn.sameBut sb haC, fun h3 sb3 => ?_⟩
  exact ⟨_, H', I2.turned (t' := s2.toks) (fun b o hb e => (sb3.2 b hb).trans e) f0 f1 f3 f4 f5, q⟩
theorem s_setDc {i : Nat} {y : Str} {py spos : Pos} (hp : PtOk c (own.map (·.2)) pt g) (hc : X.calm = true) (hN : X.N.Nodup) (hy : X.N[i]? = some y) (hyl : X.env.scope.names.lookup y = some .local)
    (hsw : swapsWith (.DictComp kx vx [⟨tg, iter, ifs, 0⟩] scope pos) (some (.Name y py)) spos.line X.env = pure true) (hi : PI X tg iter (tMI c W it)) (ok : BlkOk X.N X.env.scope scope own)
    (hg : ∀ (s : Shared) (H : Hp) (C : Addr) (cl : List (Str × Addr)) (fp : List Addr), PG (X.blk s H scope (compEnvC scope cl C X.env) fp) tg g) (ht : ∀ (s : Shared) (H : Hp) (C : Addr) (cl : List (Str × Addr)) (fp : List Addr), PTs (X.blk s H scope (compEnvC scope cl C X.env) fp) ifs (tT c W0 t))
    (hk : ∀ (s : Shared) (H : Hp) (C : Addr) (cl : List (Str × Addr)) (fp : List Addr), PE (X.blk s H scope (compEnvC scope cl C X.env) fp) kx (tM c W0 fk))
    (he : ∀ (s : Shared) (H : Hp) (C : Addr) (cl : List (Str × Addr)) (fp : List Addr), PE (X.blk s H scope (compEnvC scope cl C X.env) fp) vx (tM c W0 fv)) (hs : ∀ x, foldedSetIterable iter X.env x = pure x := by intro _; rfl) :
    PS X (.Assign [.Name y py] (.DictComp kx vx [⟨tg, iter, ifs, 0⟩] scope pos) spos) (tMS c W (mSet i (mDc (own.map (·.2)) pt it t fk fv))) :=
  ps_imp (ps_setDc hc hN hy hyl hsw hi ok hg ht hk he hs) fun D σ H ⟨w, σa, st, rl, p⟩ => entail_dc hp σ H _ ⟨w, σa, st, rl, PostO.lift p fun _ _ _ _ _ _ rl1 r p1 => p1.nxt (rl1.set r)⟩
def enumD (xs : List D) : List A := (List.range xs.length).map fun i => .d (.tup [.int (i : Nat), xs.getD i .non])
theorem enumD_len (xs : List D) : (enumD xs).length = xs.length := by unfold enumD; rw [List.length_map, List.length_range]
theorem enumD_get {xs : List D} {i : Nat} {a : A} (h : (enumD xs)[i]? = some a) : ∃ x, xs[i]? = some x ∧ a = .d (.tup [.int (i : Nat), x]) := by
  unfold enumD at h
  rw [List.getElem?_map] at h
  obtain ⟨j, hj, rfl⟩ := Option.map_eq_some_iff.mp h
  have hl := (List.getElem?_eq_some_iff.mp hj).1
  rw [List.length_range] at hl
  rw [List.getElem?_range hl] at hj
  cases hj
  refine ⟨xs.getD i .non, ?_, rfl⟩
  rw [List.getD_eq_getElem?_getD, List.getElem?_eq_getElem hl]
  rfl
def iEnumerateM (fs : MA) : MI := fun σ st => (fs σ st).bind fun as st1 => match as with
  | [x] => match (viewS st1 x).bind allD with
    | some xs => .ok ⟨enumD xs, fun s => viewS s x = some (xs.map .d)⟩ st1
    | _ => .no
  | _ => .no
theorem i_enumerate (hm : c.mg "enumerate" = none) (ha : PA X [e] (tMA c W fs)) (hgl : Gl X "enumerate" := by rfl) (F : Fits X c := by exact ⟨rfl, rfl⟩) (hs : starEach [e] X.env = [(false, eval e X.env)] := by rfl) :
    PI X (.Tuple elts kk tpos) (.Call (.Name "enumerate" p) [e] [] pos) (tMI c W (iEnumerateM fs)) :=
  pi_imp (pi_enum hgl (F.mg ▸ hm) ha hs) fun σ H R ⟨w, σa, st, rl, q⟩ => ⟨w, σa, st, rl, q.bind fun vs as st1 w1 H1 _ rl1 rs p1 => by
    split at p1
    · rename_i x
      obtain ⟨vx, rfl, rx⟩ := pr1 rs
      split at p1
      · rename_i xs hx
        obtain ⟨xa, hvx, hdx⟩ := Option.bind_eq_some_iff.mp hx
        rw [allD_eq hdx] at hvx
        obtain ⟨a, us, rfl, q1, pr1⟩ := viewS_ok rl1.rs rx hvx
        rw [F.K]
        refine ⟨a, us, rfl, q1, p1.here rl1 fun w2 st2 H2 e2 rs2 ok => ?_⟩
        obtain ⟨a', us', e', q1', pr1'⟩ := viewS_ok rs2 (rx.ext e2) ok
        cases e'
        have l1 := pr1'.length
        rw [List.length_map] at l1
        refine ⟨⟨us', q1', ?_⟩, fun i z hz => ?_⟩
        · rw [show (⟨enumD xs, fun s => viewS s x = some (xs.map .d)⟩ : Walk).items.length = xs.length from enumD_len xs]
          omega
        · obtain ⟨dx, gx, rfl⟩ := enumD_get hz
          obtain ⟨u, hu, ru⟩ := paired_get pr1' (b := A.d dx) (by rw [List.getElem?_map, gx]; rfl)
          refine ⟨⟨us', u, q1', hu⟩, fun v H3 ⟨T, x', ev, hT, e3, y1⟩ σa2 σ2 rl2 => ?_⟩
          have z1 := y1 us' q1'
          rw [hu] at z1
          cases z1
          subst ev e3
          have g := rl2.rs.same.free hT
          have ru' : DR c (upd w2.G T (.tup [.int (i : Nat), u])) dx u := DR.same (same_upd g) ru
          exact ⟨w2.put T (.tup [.int (i : Nat), u]), w2.put_ext g, rl2.put hT, T, [.int (i : Nat), u], rfl, upd_same, ⟨_, [u], rfl, rfl, u, [], rfl, ru', rfl⟩⟩
      · exact p1.elim
    · exact p1.elim⟩
end
end Am
/-! ### Am: a dict's keys, the dict locked meanwhile -/
namespace Am
open PySem PySem.Spec PyProof.Rows L2
/-- a dict that is data -/
def dictD (st : Store) : A → Option (List (Key × D))
  | .d (.dK ds) => some ds
  | .c i => match st[i]? with
    | some (.fz (.dK ds)) => some ds
    | _ => none
  | _ => none
def dictAt (j : Nat) (σ : Slots) (st : Store) : Option (List (Key × D)) := match σ[j]? with
  | some (some a) => dictD st a
  | _ => none
/-- for k in (the name at j) -/
def iKeysD (j : Nat) : MI := fun σ st => match dictAt j σ st with
  | some ds => .ok ⟨(ds.map fun p => kD p.1).map A.d, fun _ => True⟩ st
  | none => .no
/-- what is read while the dict at j is locked -/
def mLk (j : Nat) (F : ME) : ME := fun σ st => match dictAt j σ st with
  | some _ => noEx (F σ st)
  | none => .no
/-- the dict at j is locked -/
def Lk (j : Nat) (σ : L2.St) (H : Hp) : Prop := ∃ a o us, σ[j]? = some (some (.ref a)) ∧ H a = some (.frz o (.dK us))
section
variable {c : Ctx} {w : Wd} {n : Nat} {σa : Slots} {st : Store} {σ : L2.St} {H : Hp} {W : WX} {G : Hp} {a : Addr} {us : List (Key × V)} {od : Obj}
theorem sameU_lk (g : G a = some (.dK us)) : SameU G (upd G a (.frz od (.dK us))) where
  keep := fun b o h n => by
    rw [upd_ne fun z => by rw [z, g] at h; cases h; exact n trivial]
    exact h
  dk := fun b vs h => by
    by_cases z : b = a
    · subst z
      rcases h with h | ⟨_, h⟩
      · rw [g] at h; cases h; exact .inr ⟨od, upd_same⟩
      · rw [g] at h; cases h
    · exact h.imp (fun h => by rw [upd_ne z]; exact h) fun ⟨o, h⟩ => ⟨o, by rw [upd_ne z]; exact h⟩
  dt := fun b vs h => by
    by_cases z : b = a
    · subst z
      rcases h with h | ⟨_, h⟩ <;> (rw [g] at h; cases h)
    · exact h.imp (fun h => by rw [upd_ne z]; exact h) fun ⟨o, h⟩ => ⟨o, by rw [upd_ne z]; exact h⟩
theorem sameU_un (g : G a = some (.frz od (.dK us))) : SameU G (upd G a (.dK us)) where
  keep := fun b o h n => by
    rw [upd_ne fun z => by rw [z, g] at h; cases h; exact n trivial]
    exact h
  dk := fun b vs h => by
    by_cases z : b = a
    · subst z
      rcases h with h | ⟨_, h⟩
      · rw [g] at h; cases h
      · rw [g] at h; cases h; exact .inl upd_same
    · exact h.imp (fun h => by rw [upd_ne z]; exact h) fun ⟨o, h⟩ => ⟨o, by rw [upd_ne z]; exact h⟩
  dt := fun b vs h => by
    by_cases z : b = a
    · subst z
      rcases h with h | ⟨_, h⟩ <;> (rw [g] at h; cases h)
    · exact h.imp (fun h => by rw [upd_ne z]; exact h) fun ⟨o, h⟩ => ⟨o, by rw [upd_ne z]; exact h⟩
theorem RA.swap {w' : Wd} (hE : w'.E = w.E) (u : SameU w.G w'.G) {v : V} : ∀ {x : A}, RA c w n v x → RA c w' n v x
  | .d _, h => DR.sameU u h
  | .c _, ⟨h, e⟩ => ⟨h, by rw [hE]; exact e⟩
theorem CR.swap {w' : Wd} {H' : Hp} {b : Addr} (hE : w'.E = w.E) (u : SameU w.G w'.G) (hc : w.G b = none → w'.G b = none ∧ H' b = H b) (hn : H b ≠ none → H' b ≠ none) : ∀ {x : Cell}, CR c w n H b x → CR c w' n H' b x
  | .lst _, ⟨g, vs, h, p⟩ => ⟨(hc g).1, vs, by rw [(hc g).2]; exact h, paired_imp p fun _ _ => RA.swap hE u⟩
  | .dK _, ⟨g, vs, h, p⟩ => ⟨(hc g).1, vs, by rw [(hc g).2]; exact h, paired_imp p fun _ _ q => ⟨q.1, RA.swap hE u q.2⟩⟩
  | .dT _, ⟨g, vs, h, p⟩ => ⟨(hc g).1, vs, by rw [(hc g).2]; exact h, paired_imp p fun _ _ q => ⟨q.1, RA.swap hE u q.2⟩⟩
  | .ins _ _, ⟨g, C, dx, vs, h, m, p⟩ => ⟨(hc g).1, C, dx, vs, by rw [(hc g).2]; exact h, m, paired_imp p fun _ _ q => ⟨q.1, RA.swap hE u q.2⟩⟩
  | .fz _, ⟨h, t⟩ => ⟨DR.sameU u h, hn t⟩
theorem Rel.swap {w' : Wd} {H' : Hp} (rl : Rel c w σa st σ H) (hE : w'.E = w.E) (u : SameU w.G w'.G) (s : Same w'.G H') (hc : ∀ b, w.G b = none → w'.G b = none ∧ H' b = H b) (hn : ∀ b, H b ≠ none → H' b ≠ none) : Rel c w' σa st σ H' :=
  ⟨⟨s, by rw [hE]; exact rl.rs.inj, fun i x h => by rw [hE]; exact (rl.rs.cell i x h).swap hE u (hc _) (hn _)⟩, rl.len, fun i x h => let ⟨v, e, r⟩ := rl.sl i x h; ⟨v, e, r.swap hE u⟩⟩
theorem upd_some {H : Hp} {b a : Addr} {o : HO} (h : H b ≠ none) : upd H a o b ≠ none := by
  by_cases z : b = a
  · subst z; rw [upd_same]; exact fun z => nomatch z
  · rw [upd_ne z]; exact h
theorem Rel.lk (rl : Rel c w σa st σ H) (g : w.G a = some (.dK us)) : Rel c ⟨upd w.G a (.frz od (.dK us)), w.E⟩ σa st σ (upd H a (.frz od (.dK us))) :=
  rl.swap rfl (sameU_lk g) (same_upd2 rl.rs.same) (fun b hb => by
    have z : b ≠ a := fun z => by rw [z, g] at hb; cases hb
    exact ⟨(upd_ne z).trans hb, upd_ne z⟩) fun b => upd_some
theorem Rel.un (rl : Rel c w σa st σ H) (g : w.G a = some (.frz od (.dK us))) : Rel c ⟨upd w.G a (.dK us), w.E⟩ σa st σ (upd H a (.dK us)) :=
  rl.swap rfl (sameU_un g) (same_upd2 rl.rs.same) (fun b hb => by
    have z : b ≠ a := fun z => by rw [z, g] at hb; cases hb
    exact ⟨(upd_ne z).trans hb, upd_ne z⟩) fun b => upd_some
theorem Post.quiet {W' : WX} {Q : V → Hp → Prop} {r : Res A} (p : Post c w n σa σ (RA c) W Q (noEx r)) : Post c w n σa σ (RA c) W' Q r := by
  cases r with
  | ok _ _ => exact p
  | ex _ _ => exact p.elim
  | no => exact p.elim
theorem Post.lk {W' : WX} {Q : V → Hp → Prop} {r : Res A} (g : w.G a = some (.dK us)) (p : Post c w n σa σ (RA c) W Q (noEx r)) : Post c ⟨upd w.G a (.frz od (.dK us)), w.E⟩ n σa σ (RA c) W' (fun v H' => H' a = some (.frz od (.dK us)) ∧ Q v (upd H' a (.dK us))) r := by
  cases r with
  | ok x st1 =>
    intro v w1 H1 e1 r1 ra
    have ga : w1.G a = some (.frz od (.dK us)) := e1.same a _ upd_same
    refine ⟨r1.rs.same _ _ ga, ?_⟩
    refine p v ⟨upd w1.G a (.dK us), w1.E⟩ _ ⟨fun b o h => ?_, e1.cells, e1.le⟩ (r1.un ga) (RA.swap (w := w1) (w' := ⟨upd w1.G a (.dK us), w1.E⟩) rfl (sameU_un ga) ra)
    by_cases z : b = a
    · subst z
      rw [g] at h
      cases h
      exact upd_same
    · show upd w1.G a (.dK us) b = some o
      rw [upd_ne z]
      refine e1.same b o ?_
      show upd w.G a (.frz od (.dK us)) b = some o
      rw [upd_ne z]
      exact h
  | ex _ _ => exact p.elim
  | no => exact p.elim
theorem dictAt_ok {j : Nat} {ds : List (Key × D)} (rl : Rel c w σa st σ H) (h : dictAt j σa st = some ds) : ∃ a us, σ[j]? = some (some (.ref a)) ∧ Rd w.G a (.dK us) ∧ DRk c w.G ds us := by
  unfold dictAt at h
  split at h
  · rename_i x hx
    obtain ⟨v, hv, ra⟩ := rl.sl j x hx
    unfold dictD at h
    split at h
    · cases h
      obtain ⟨a, us, rfl, h1, h2⟩ := ra
      exact ⟨a, us, hv, h1, h2⟩
    · rename_i i
      split at h
      · rename_i ds' hc
        cases h
        obtain ⟨_, rfl⟩ := ra
        obtain ⟨⟨a, us, e, h1, h2⟩, _⟩ := rl.rs.cell i _ hc
        cases e
        exact ⟨_, us, hv, h1, h2⟩
      · cases h
    · cases h
  · cases h
variable {X : Cx} {e tg elt kx vx : Expr} {ifs : List Expr} {scope : Scope} {own : List (Str × Nat)} {pos npos : Pos} {pt : Pt} {g : TG} {t : MT} {f fk fv : ME} {j : Nat} {x : Str}
theorem e_lockd {tt : TE} {F : ME} (h : PE X e tt) (hf : ∀ σ H Q, (Lk j σ H ∧ tM c W F σ H Q) → tt σ H Q) : PE X e (tM c W (mLk j F)) := by
  have h2 : PE X e (fun σ H Q => tt σ H Q ∨ tLockE tt σ H Q) := ⟨fun pins s σ H Q I q => q.elim (h.run pins s σ H Q I) ((pe_lock h).run pins s σ H Q I)⟩
  refine pe_imp h2 fun σ H Q ⟨w, σa, st, rl, p⟩ => ?_
  unfold mLk at p
  split at p
  · rename_i ds hd
    obtain ⟨a, us, hs, hr, _⟩ := dictAt_ok rl hd
    rcases hr with hr | ⟨o, hr⟩
    · exact .inr ⟨a, .dK us, rl.rs.same _ _ hr, trivial, fun od => hf _ _ _ ⟨⟨a, od, us, hs, upd_same⟩, _, σa, st, rl.lk hr, p.lk hr⟩⟩
    · exact .inl (hf _ _ _ ⟨⟨a, o, us, hs, rl.rs.same _ _ hr⟩, w, σa, st, rl, p.quiet⟩)
  · exact p.elim
theorem i_keysD (hN : X.N[j]? = some x := by rfl) (hv : Vis X.env.scope x := by first | exact Or.inl rfl | exact Or.inr (Or.inl rfl) | exact Or.inr (Or.inr rfl)) (hd : (x == ("__debug__" : Str)) = false := by decide)
    (hcd : (x == ("__classdict__" : Str)) = false := by decide) : PI X tg (.Name x npos) (fun σ H R => Lk j σ H ∧ tMI c W (iKeysD j) σ H R) :=
  pi_imp (pi_keys (pe_var hN hv hd hcd)) fun σ H R ⟨⟨a, o, us, hs, ha⟩, w, σa, st, rl, p⟩ => by
    unfold iKeysD at p
    split at p
    · rename_i ds hda
      obtain ⟨a', us', hs', hr, hp⟩ := dictAt_ok rl hda
      rw [hs] at hs'
      cases hs'
      have hg : w.G a = some (.frz o (.dK us)) := by
        rcases hr with hr | ⟨o', hr⟩
        · have := rl.rs.same _ _ hr; rw [ha] at this; cases this
        · have := rl.rs.same _ _ hr; rw [ha] at this; cases this; exact hr
      have eu : us' = us := by
        rcases hr with hr | ⟨o', hr⟩ <;> (rw [hg] at hr; cases hr)
        rfl
      subst eu
      have pr := DRk.pair hp
      refine ⟨.ref a, hs, a, o, rfl, .inl ⟨us', ha, p.here rl fun w2 st2 H2 e2 rs2 _ => ?_⟩⟩
      have h2 : H2 a = some (.frz o (.dK us')) := rs2.same _ _ (e2.same _ _ hg)
      refine ⟨⟨h2, by rw [pr.length]; show ds.length ≤ ((ds.map fun p => kD p.1).map A.d).length; rw [List.length_map, List.length_map]; exact Nat.le_refl _⟩, fun i y hy => ?_⟩
      rw [List.getElem?_map, List.getElem?_map] at hy
      obtain ⟨z0, hz0, rfl⟩ := Option.map_eq_some_iff.mp hy
      obtain ⟨q, hq, rfl⟩ := Option.map_eq_some_iff.mp hz0
      obtain ⟨u, hu, ru⟩ := paired_get pr hq
      refine ⟨⟨h2, (List.getElem?_eq_some_iff.mp hu).1⟩, fun v H3 ⟨e3, k, v', hk, ev⟩ σa2 σ2 rl2 => ⟨w2, Ext.refl _ _, by rw [e3]; exact rl2, ?_⟩⟩
      rw [hu] at hk
      cases hk
      subst ev
      have : k = q.1 := ru.1
      rw [this]
      cases q.1 <;> rfl
    · exact p.elim
theorem e_lcK (k : Bool) (hp : PtOk c (own.map (·.2)) pt g) (hc : X.calm = true) (hN : X.N.Nodup) (hi : PI X tg e (fun σ H R => Lk j σ H ∧ tMI c W (iKeysD j) σ H R)) (ok : BlkOk X.N X.env.scope scope own)
    (hg : ∀ (s : Shared) (H : Hp) (C : Addr) (cl : List (Str × Addr)) (fp : List Addr), PG (X.blk s H scope (compEnvC scope cl C X.env) fp) tg g) (ht : ∀ (s : Shared) (H : Hp) (C : Addr) (cl : List (Str × Addr)) (fp : List Addr), PTs (X.blk s H scope (compEnvC scope cl C X.env) fp) ifs (tT c W0 t))
    (he : ∀ (s : Shared) (H : Hp) (C : Addr) (cl : List (Str × Addr)) (fp : List Addr), PE (X.blk s H scope (compEnvC scope cl C X.env) fp) elt (tM c W0 f)) (hs : ∀ x, foldedSetIterable e X.env x = pure x := by intro _; rfl) :
    PE X (.ListComp elt [⟨tg, e, ifs, 0⟩] scope pos) (tM c W (mLk j (mLc k (own.map (·.2)) pt (iKeysD j) t f))) :=
  e_lockd (pe_lc hc hN hi ok hg ht he hs) fun σ H Q ⟨lk, h⟩ => ⟨lk, entail_lc hp σ H Q h⟩
theorem e_dcK (hp : PtOk c (own.map (·.2)) pt g) (hc : X.calm = true) (hN : X.N.Nodup) (hi : PI X tg e (fun σ H R => Lk j σ H ∧ tMI c W (iKeysD j) σ H R)) (ok : BlkOk X.N X.env.scope scope own)
    (hg : ∀ (s : Shared) (H : Hp) (C : Addr) (cl : List (Str × Addr)) (fp : List Addr), PG (X.blk s H scope (compEnvC scope cl C X.env) fp) tg g) (ht : ∀ (s : Shared) (H : Hp) (C : Addr) (cl : List (Str × Addr)) (fp : List Addr), PTs (X.blk s H scope (compEnvC scope cl C X.env) fp) ifs (tT c W0 t))
    (hk : ∀ (s : Shared) (H : Hp) (C : Addr) (cl : List (Str × Addr)) (fp : List Addr), PE (X.blk s H scope (compEnvC scope cl C X.env) fp) kx (tM c W0 fk))
    (he : ∀ (s : Shared) (H : Hp) (C : Addr) (cl : List (Str × Addr)) (fp : List Addr), PE (X.blk s H scope (compEnvC scope cl C X.env) fp) vx (tM c W0 fv)) (hs : ∀ x, foldedSetIterable e X.env x = pure x := by intro _; rfl) :
    PE X (.DictComp kx vx [⟨tg, e, ifs, 0⟩] scope pos) (tM c W (mLk j (mDc (own.map (·.2)) pt (iKeysD j) t fk fv))) :=
  e_lockd (pe_dc hc hN hi ok hg ht hk he hs) fun σ H Q ⟨lk, h⟩ => ⟨lk, entail_dc hp σ H Q h⟩
end
end Am
/-! ### Am: reckoning with dicts -/
namespace Am
open PySem PySem.Spec PyProof.Rows L2
section
variable {st : Store} {g y a : A} {kvs : List (Key × A)} {k : Key}
theorem viewK_c (i : Nat) : viewK st (.c i) = match st[i]? with | some (.dK xs) => some xs | some (.fz (.dK ds)) => some (ds.map fun p => (p.1, A.d p.2)) | _ => none := rfl
theorem viewS_K (h : viewK st g = some kvs) : viewS st g = none := by
  cases g with
  | d x => cases x <;> first | rfl | cases h
  | c i =>
    rw [viewS_c]
    rw [viewK_c] at h
    split at h
    · rename_i e; rw [e]
    · rename_i e; rw [e]
    · cases h
theorem viewK_app (h : viewK st g = some kvs) (L : Store) : viewK (st ++ L) g = some kvs := by
  cases g with
  | d x => cases x <;> first | exact h | cases h
  | c i =>
    have hl : i < st.length := by
      rw [viewK_c] at h
      split at h
      · rename_i e; exact RelS.lt e
      · rename_i e; exact RelS.lt e
      · cases h
    rw [viewK_c] at h ⊢
    rw [List.getElem?_append_left hl]
    exact h
theorem gIx_K (h : viewK st g = some kvs) (hk : keyA y = some k) (hl : lookK kvs k = some a) : gIx g y st = .ok a st := by
  have hs := viewS_K h
  have ht : viewT g = none := by
    cases g with
    | d x => cases x <;> first | rfl | cases h
    | c i => rfl
  unfold gIx
  split
  · cases h
  · simp only [hs, ht, h, hk, hl]
theorem gSorted_K {ns : List Int} (h : viewK st g = some kvs) (hn : intsK kvs = some ns) (hl : ns.length < 64) : gSorted false [g] st = .ok (.d (.list ((isort ns).map D.int))) st := by
  have hs := viewS_K h
  show (match viewS st g with
    | some xs => match intsA xs with
      | some ns => mkL false (((isort ns).map D.int).map A.d) st
      | none => .no
    | none => match viewK st g with
      | some kvs => match intsK kvs with
        | some ns => ifc (ns.length < 64) (mkL false (((isort ns).map D.int).map A.d) st) .no
        | none => .no
      | none => .no) = _
  simp only [hs, h, hn]
  rw [ifc_pos hl, mkL_d (allD_map _) (by rw [List.length_map, List.length_map, isort_len]; unfold SZ; omega)]
theorem gSorted_S {ns : List Int} {xs : List A} (h : viewS st g = some xs) (hn : intsA xs = some ns) (hl : ns.length ≤ SZ) : gSorted false [g] st = .ok (.d (.list ((isort ns).map D.int))) st := by
  show (match viewS st g with
    | some xs => match intsA xs with
      | some ns => mkL false (((isort ns).map D.int).map A.d) st
      | none => .no
    | none => match viewK st g with
      | some kvs => match intsK kvs with
        | some ns => ifc (ns.length < 64) (mkL false (((isort ns).map D.int).map A.d) st) .no
        | none => .no
      | none => .no) = _
  simp only [h, hn]
  rw [mkL_d (allD_map _) (by rw [List.length_map, List.length_map, isort_len]; exact hl)]
theorem gListD_K {k : Bool} (h : viewK st g = some kvs) : gListD k [g] st = mkL k ((kvs.map fun (p : Key × A) => kD p.1).map A.d) st := by
  show (match viewK st g with | some kvs => mkL k ((kvs.map fun (p : Key × A) => kD p.1).map A.d) st | none => gListOf k [g] st) = _
  rw [h]
theorem putA_new {α : Type} {kvs : List (Key × α)} {k : Key} {v : α} (h : k ∉ kvs.map (·.1)) : putA kvs k v = kvs ++ [(k, v)] := by
  unfold putA
  rw [if_neg]
  intro z
  obtain ⟨p, hp, e⟩ := List.any_eq_true.mp z
  exact h (List.mem_map.mpr ⟨p, hp, by simpa using e⟩)
/-- {k x: v x for x in xs}, the keys all different -/
theorem dcA_new {pt : Pt} {fk fv : ME} {ok : Store → Prop} {σ : Slots} (kf : A → Key) (vf : A → A) : ∀ (xs : List A) (acc : List (Key × A)), ((acc.map (·.1)) ++ xs.map kf).Nodup → acc.length + xs.length ≤ SZ → (∀ ac, ok (st ++ [.dK ac])) →
    (∀ x ∈ xs, ∀ ac, ∃ σ1 y, pt σ x = some σ1 ∧ fk σ1 (st ++ [.dK ac]) = .ok y (st ++ [.dK ac]) ∧ keyA y = some (kf x) ∧ fv σ1 (st ++ [.dK ac]) = .ok (vf x) (st ++ [.dK ac])) →
    dcA pt mYes fk fv st.length ok σ xs (st ++ [.dK acc]) = .ok () (st ++ [.dK (acc ++ xs.map fun x => (kf x, vf x))])
  | [], acc, _, _, hok, _ => by rw [dcA, need_pos (hok _), List.map_nil, List.append_nil]
  | x :: xs, acc, nd, hl, hok, hs => by
    obtain ⟨σ1, y, h1, h2, h3, h4⟩ := hs x List.mem_cons_self acc
    rw [dcA, need_pos (hok _), h1]
    have hk : kf x ∉ acc.map (·.1) := fun z => by
      rw [List.map_cons] at nd
      exact (List.nodup_append.mp nd).2.2 _ z _ List.mem_cons_self rfl
    have e0 : mYes σ1 (st ++ [.dK acc]) = .ok true (st ++ [.dK acc]) := rfl
    simp only [e0, noEx, bind_ok, if_true, h2, h4, loc_get0, List.getElem?_cons_zero, h3]
    rw [ifc_pos (by rw [List.length_cons] at hl; omega), loc_set0, putA_new hk]
    show dcA pt mYes fk fv st.length ok σ xs (st ++ [Cell.dK (acc ++ [(kf x, vf x)])]) = _
    rw [dcA_new kf vf xs (acc ++ [(kf x, vf x)]) (by rw [List.map_append, List.append_assoc]; exact nd) (by rw [List.length_append, List.length_singleton]; rw [List.length_cons] at hl; omega) hok fun z hz => hs z (List.mem_cons_of_mem _ hz)]
    rw [List.append_assoc]
    rfl
theorem mDc_new {vs : List Nat} {pt : Pt} {it : MI} {fk fv : ME} {σ : Slots} {st1 : Store} {xs : List A} {ok : Store → Prop} (kf : A → Key) (vf : A → A) (hit : it σ st = .ok ⟨xs, ok⟩ st1) (nd : (xs.map kf).Nodup) (hl : xs.length ≤ SZ) (hok : ∀ ac, ok (st1 ++ [.dK ac]))
    (hs : ∀ x ∈ xs, ∀ ac, ∃ σ1 y, pt (wipeA σ vs) x = some σ1 ∧ fk σ1 (st1 ++ [.dK ac]) = .ok y (st1 ++ [.dK ac]) ∧ keyA y = some (kf x) ∧ fv σ1 (st1 ++ [.dK ac]) = .ok (vf x) (st1 ++ [.dK ac])) :
    mDc vs pt it mYes fk fv σ st = .ok (.c st1.length) (st1 ++ [.dK (xs.map fun x => (kf x, vf x))]) := by
  unfold mDc
  rw [hit, bind_ok]
  rw [dcA_new (st := st1) kf vf xs [] (by simpa using nd) (by simpa using hl) hok hs, bind_ok, List.nil_append]
end
end Am
/-! ### Am: comprehensions whose items change the store -/
namespace Am
open PySem PySem.Spec PyProof.Rows L2
theorem mLc_eff {it : MI} {vs : List Nat} {pt : Pt} {f : ME} {σ : Slots} {st st1 : Store} {xs : List A} {ok : Store → Prop} (I : Nat → List D → Store → Prop) (hit : it σ st = .ok ⟨xs, ok⟩ st1) (hl : xs.length ≤ SZ) (h0 : I 0 [] st1)
    (hok : ∀ j ds s, I j ds s → ok (s ++ [.lst (ds.map A.d)])) (hlen : ∀ j ds s, I j ds s → s.length = st1.length ∧ ∀ i, i < st1.length → s[i]? = st1[i]? ∨ ∃ x, s[i]? = some x ∧ CBelow st1.length x)
    (ht : ∀ j x ds s, xs[j]? = some x → I j ds s → ∃ σ1 y s', pt (wipeA σ vs) x = some σ1 ∧ f σ1 (s ++ [.lst (ds.map A.d)]) = .ok (.d y) (s' ++ [.lst (ds.map A.d)]) ∧ I (j + 1) (ds ++ [y]) s') :
    ∃ ds s, mLc false vs pt it mYes f σ st = .ok (.d (.list ds)) s ∧ I xs.length ds s := by
  obtain ⟨acc, s2, e1, e2, ds, s, rfl, rfl, hI⟩ := lcA_inv (pt := pt) (f := f) (n := st1.length) (ok := ok) (σ := wipeA σ vs) (fun j acc s2 => ∃ ds s, acc = ds.map A.d ∧ s2 = s ++ [.lst acc] ∧ I j ds s) (fun j acc s2 ⟨ds, s, h1, h2, h3⟩ => by subst h1 h2; exact hok j ds s h3) xs 0 [] (st1 ++ [.lst []]) (by simp) ⟨[], st1, rfl, rfl, h0⟩ (by simpa using hl)
    (fun j x acc s2 hx _ ⟨ds, s, h1, h2, h3⟩ => by
      subst h1 h2
      rw [Nat.zero_add] at h3 ⊢
      obtain ⟨σ1, y, s', e1, e2, e3⟩ := ht j x ds s hx h3
      have l1 := (hlen _ _ _ e3).1
      refine ⟨σ1, _, _, e1, e2, by rw [← l1]; exact loc_get0 _ _, ds ++ [y], s', by rw [List.map_append]; rfl, ?_, e3⟩
      rw [← l1, loc_set0]
      rfl)
  rw [Nat.zero_add] at hI
  obtain ⟨l1, l2⟩ := hlen _ _ _ hI
  refine ⟨ds, s, ?_, hI⟩
  unfold mLc
  rw [hit]
  show (lcA pt mYes f st1.length ok (wipeA σ vs) xs (st1 ++ [.lst []])).bind (fun _ st2 => lcEnd false st1 st2) = _
  rw [e1]
  show lcEnd false st1 (s ++ [.lst (ds.map A.d)]) = _
  unfold lcEnd
  rw [← l1, loc_get0, List.getElem?_cons_zero]
  simp only [Bool.false_eq_true, if_false, allD_map]
  rw [need_pos, List.take_left']
  · rfl
  · refine ⟨by rw [List.length_append]; omega, fun i hi => ?_⟩
    rw [List.getElem?_append_left (by omega)]
    exact l2 i hi
end Am
/-! ### Am: except X as e: the suite asks isinstance(e, C) -/
namespace Am
open PySem PySem.Spec PyProof.Rows L2
/-- a wish with a fact about the names -/
def tMP (Φ : L2.St → Wd → Prop) (c : Ctx) (W : WX) (f : ME) : TE := fun σ H Q => ∃ w σa st, Φ σ w ∧ Rel c w σa st σ H ∧ Post c w st.length σa σ (RA c) W Q (f σa st)
def tTP (Φ : L2.St → Wd → Prop) (c : Ctx) (W : WX) (f : MT) : TT := fun σ H Q => ∃ w σa st, Φ σ w ∧ Rel c w σa st σ H ∧ Post c w st.length σa σ (fun _ _ b b' => b = b') W Q (f σa st)
def tMAP (Φ : L2.St → Wd → Prop) (c : Ctx) (W : WX) (f : MA) : TA := fun σ H Q => ∃ w σa st, Φ σ w ∧ Rel c w σa st σ H ∧ Post c w st.length σa σ (fun w n => Paired (RA c w n)) W Q (f σa st)
def tMSP (Φ : L2.St → Wd → Prop) (c : Ctx) (W : WX) (m : MS) : TS := fun D σ H => ∃ w σa st, Φ σ w ∧ Rel c w σa st σ H ∧ PostO c w st.length W D (m σa st)
def Lasts (Φ : L2.St → Wd → Prop) : Prop := ∀ σ w w' n n', Ext w n w' n' → Φ σ w → Φ σ w'
section
variable {X : Cx} {c : Ctx} {W : WX} {Φ : L2.St → Wd → Prop} {e a b : Expr} {es rest : List Expr} {f fa fb : ME} {fs fr : MA} {t ta tb : MT} {m k : MS} {p pos : Pos}
theorem p_of (h : PE X e (tM c W f)) : PE X e (tMP Φ c W f) := pe_imp h fun _ _ _ ⟨w, σa, st, _, rl, q⟩ => ⟨w, σa, st, rl, q⟩
theorem pt_of (h : PT X e (tT c W t)) : PT X e (tTP Φ c W t) := pt_imp h fun _ _ _ ⟨w, σa, st, _, rl, q⟩ => ⟨w, σa, st, rl, q⟩
theorem ps_of {s : Stmt} (h : PS X s (tMS c W m)) : PS X s (tMSP Φ c W m) := ps_imp h fun _ _ _ ⟨w, σa, st, _, rl, q⟩ => ⟨w, σa, st, rl, q⟩
theorem pss_of {s : List Stmt} (h : PSs X s (tMS c W m)) : PSs X s (tMSP Φ c W m) := pss_imp h fun _ _ _ ⟨w, σa, st, _, rl, q⟩ => ⟨w, σa, st, rl, q⟩
theorem p_not (ha : PE X a (tMP Φ c W f)) (F : Fits X c := by exact ⟨rfl, rfl⟩) : PE X (.UnaryOp .Not a pos) (tMP Φ c W (mNotV f)) := pe_imp (pe_notT ha) fun σ H Q ⟨w, σa, st, ph, rl, p⟩ => ⟨w, σa, st, ph, rl, p.bind fun v x st1 w1 H1 _ rl1 rx p1 => by
  split at p1
  · rename_i k hk
    rw [F.K]
    exact ⟨k, truthA_ok rl1.rs rx hk, p1.here rl1 rfl⟩
  · exact p1.elim⟩
theorem p_one {op} (ha : PE X a (tMP Φ c W f)) : PE X (.BoolOp op [a] pos) (tMP Φ c W f) := pe_one ha
theorem p_and (L : Lasts Φ) (ha : PE X a (tMP Φ c W fa)) (hb : PE X (.BoolOp .And (b :: rest) pos) (tMP Φ c W fb)) (F : Fits X c := by exact ⟨rfl, rfl⟩) : PE X (.BoolOp .And (a :: b :: rest) pos) (tMP Φ c W (mAndV fa fb)) := pe_imp (pe_andT ha hb) fun σ H Q ⟨w, σa, st, ph, rl, p⟩ =>
  ⟨w, σa, st, ph, rl, p.bind fun v x st1 w1 H1 e1 rl1 rx p1 => by
    rw [F.K]
    split at p1
    · rename_i hk
      exact ⟨true, truthA_ok rl1.rs rx hk, iteT ⟨w1, σa, st1, L _ _ _ _ _ e1 ph, rl1, p1⟩⟩
    · rename_i hk
      exact ⟨false, truthA_ok rl1.rs rx hk, iteF (p1.here rl1 rx)⟩
    · exact p1.elim⟩
theorem p_or (L : Lasts Φ) (ha : PE X a (tMP Φ c W fa)) (hb : PE X (.BoolOp .Or (b :: rest) pos) (tMP Φ c W fb)) (F : Fits X c := by exact ⟨rfl, rfl⟩) : PE X (.BoolOp .Or (a :: b :: rest) pos) (tMP Φ c W (mOrV fa fb)) := pe_imp (pe_orT ha hb) fun σ H Q ⟨w, σa, st, ph, rl, p⟩ =>
  ⟨w, σa, st, ph, rl, p.bind fun v x st1 w1 H1 e1 rl1 rx p1 => by
    rw [F.K]
    split at p1
    · rename_i hk
      exact ⟨true, truthA_ok rl1.rs rx hk, iteT (p1.here rl1 rx)⟩
    · rename_i hk
      exact ⟨false, truthA_ok rl1.rs rx hk, iteF ⟨w1, σa, st1, L _ _ _ _ _ e1 ph, rl1, p1⟩⟩
    · exact p1.elim⟩
theorem pt_tru (ha : PE X a (tMP Φ c W f)) (he : ∀ whole, isTrue a X.env whole = (do let v ← whole; standAt a.pos; holding [v] (truthy v)) := by intro _; rfl) (F : Fits X c := by exact ⟨rfl, rfl⟩) : PT X a (tTP Φ c W (mTru f)) :=
  pt_imp (pt_truth ha he) fun σ H Q ⟨w, σa, st, ph, rl, p⟩ => ⟨w, σa, st, ph, rl, p.bind fun v x st1 w1 H1 _ rl1 rx p1 => by
    split at p1
    · rename_i k hk
      rw [F.K]
      exact ⟨k, truthA_ok rl1.rs rx hk, p1.here rl1 rfl⟩
    · exact p1.elim⟩
theorem pt_notP (ha : PT X a (tTP Φ c W ta)) : PT X (.UnaryOp .Not a pos) (tTP Φ c W (mNot ta)) := pt_imp (pt_not ha) fun σ H Q ⟨w, σa, st, ph, rl, p⟩ => ⟨w, σa, st, ph, rl, p.bind fun v x st1 w1 H1 _ rl1 rx p1 => by
  subst rx
  exact p1.here rl1 rfl⟩
theorem wp_and1 (ha : PT X a (tTP Φ c W ta)) : PW X (.BoolOp .And [a] pos) (tTP Φ c W ta) := pw_and1 ha
theorem wp_or1 (ha : PT X a (tTP Φ c W ta)) : PW X (.BoolOp .Or [a] pos) (tTP Φ c W ta) := pw_or1 ha
theorem wp_and (L : Lasts Φ) (ha : PT X a (tTP Φ c W ta)) (hb : PW X (.BoolOp .And (b :: rest) pos) (tTP Φ c W tb)) : PW X (.BoolOp .And (a :: b :: rest) pos) (tTP Φ c W (mAnd ta tb)) := pw_imp (pw_and ha hb) fun σ H Q ⟨w, σa, st, ph, rl, p⟩ =>
  ⟨w, σa, st, ph, rl, p.bind fun v x st1 w1 H1 e1 rl1 rx p1 => by
    subst rx
    cases v with
    | true => exact iteT ⟨w1, σa, st1, L _ _ _ _ _ e1 ph, rl1, p1⟩
    | false => exact iteF (p1.here rl1 rfl)⟩
theorem wp_or (L : Lasts Φ) (ha : PT X a (tTP Φ c W ta)) (hb : PW X (.BoolOp .Or (b :: rest) pos) (tTP Φ c W tb)) : PW X (.BoolOp .Or (a :: b :: rest) pos) (tTP Φ c W (mOr ta tb)) := pw_imp (pw_or ha hb) fun σ H Q ⟨w, σa, st, ph, rl, p⟩ =>
  ⟨w, σa, st, ph, rl, p.bind fun v x st1 w1 H1 e1 rl1 rx p1 => by
    subst rx
    cases v with
    | true => exact iteT (p1.here rl1 rfl)
    | false => exact iteF ⟨w1, σa, st1, L _ _ _ _ _ e1 ph, rl1, p1⟩⟩
theorem pt_bool (h : PW X e (tTP Φ c W ta)) : PT X e (tTP Φ c W ta) := h.pt
theorem pa_nilP : PA X [] (tMAP Φ c W mNil) := pa_imp pa_nil fun _ _ _ ⟨_, _, _, _, rl, p⟩ => p.here rl .nil
theorem pa_consP (L : Lasts Φ) (ha : PE X e (tMP Φ c W fa)) (hr : PA X es (tMAP Φ c W fr)) (hs : starEach (e :: es) X.env = (false, eval e X.env) :: starEach es X.env := by rfl) : PA X (e :: es) (tMAP Φ c W (mCons fa fr)) :=
  pa_imp (pa_cons ha hr hs) fun σ H Q ⟨w, σa, st, ph, rl, p⟩ => ⟨w, σa, st, ph, rl, p.bind fun v x st1 w1 H1 e1 rl1 rx p1 => ⟨w1, σa, st1, L _ _ _ _ _ e1 ph, rl1, p1.bind fun vs xs st2 w2 H2 e2 rl2 rxs p2 => p2.here rl2 (.cons (rx.ext e2) rxs)⟩⟩
theorem p_list (k : Bool) (h : PA X es (tMAP Φ c W fr)) : PE X (.List es pos) (tMP Φ c W (mList k fr)) := pe_imp (pe_lst h) fun σ H Q ⟨w, σa, st, ph, rl, p⟩ =>
  ⟨w, σa, st, ph, rl, p.bind fun vs xs st1 w1 H1 _ rl1 r p1 => mkL_ok rl1 r p1⟩
theorem p_tup {x1} (h : PA X es (tMAP Φ c W fr)) : PE X (.Tuple es x1 pos) (tMP Φ c W (mTup fr)) := pe_imp (pe_tup h) fun σ H Q ⟨w, σa, st, ph, rl, p⟩ =>
  ⟨w, σa, st, ph, rl, p.bind fun vs xs st1 w1 H1 _ rl1 r p1 => mkT_ok rl1 r p1⟩
theorem p_int (ha : PA X (e :: []) (tMAP Φ c W fs)) (hm : c.mg "int" = none) (hgl : Gl X "int" := by rfl) (F : Fits X c := by exact ⟨rfl, rfl⟩) (he : starEach (e :: []) X.env = (false, eval e X.env) :: starEach [] X.env := by rfl) (hpl : (backTo pos (starEach [] X.env)).any (·.1) = false := by rfl) : PE X (.Call (.Name "int" p) [e] [] pos) (tMP Φ c W (mCallB gInt fs)) :=
  pe_imp (pe_callTy call_int1 hgl (by rw [F.mg]; exact hm) boot_int ha (by decide) (by decide) he hpl) fun σ H Q ⟨w, σa, st, ph, rl, q⟩ => ⟨w, σa, st, ph, rl, q.bind fun vs xs st1 w1 H1 _ rl1 rx p1 => gInt_ok w1 σa st1 σ H1 xs vs W Q rl1 rx p1⟩
theorem p_ret (h : PE X e (tMP Φ c W f)) : PS X (.Return (some e) pos) (tMSP Φ c W (mRet f)) := ps_imp (ps_ret h) fun D σ H ⟨w, σa, st, ph, rl, p⟩ =>
  ⟨w, σa, st, ph, rl, PostO.lift p fun _ _ _ _ _ _ rl1 r p1 => p1.ret rl1.rs r⟩
theorem p_if (L : Lasts Φ) {q r : List Stmt} (h : PT X e (tTP Φ c W t)) (h1 : PSs X q (tMSP Φ c W m)) (h2 : PSs X r (tMSP Φ c W k)) : PS X (.If e q r pos) (tMSP Φ c W (mIf t m k)) := ps_imp (ps_if h h1 h2) fun D σ H ⟨w, σa, st, ph, rl, p⟩ =>
  ⟨w, σa, st, ph, rl, PostO.lift p fun b b' _ _ _ e1 rl1 r p1 => by
    subst r
    cases b with
    | true => exact iteT ⟨_, _, _, L _ _ _ _ _ e1 ph, rl1, p1⟩
    | false => exact iteF ⟨_, _, _, L _ _ _ _ _ e1 ph, rl1, p1⟩⟩
theorem p_aug {j : Nat} {x : Str} {op : Operator} {r : R2} {gg : A → A → Store → Res A} {pos' : Pos} (hN : X.N.Nodup) (hi : X.N[j]? = some x) (hx : Loc X.env.scope x) (h : PE X e (tMP Φ c W f)) (ho : PIp X op r) (hg : OpA c r gg) (hf : X.fn x = true ∨ X.env.scope.names.lookup x = some .local := by first | exact .inl rfl | exact .inr rfl | assumption) :
    PS X (.AugAssign (.Name x pos') op e pos) (tMSP Φ c W (mAug j gg f)) := ps_imp (ps_aug hN hi hx h ho hf) fun D σ H ⟨w, σa, st, ph, rl, p⟩ => by
  unfold mAug at p
  split at p
  · rename_i a hj
    obtain ⟨v, e1, ra⟩ := rl.sl j a hj
    refine ⟨v, e1, w, σa, st, ph, rl, PostO.lift p fun u y st1 w1 H1 e1 rl1 ry p1 => ?_⟩
    exact hg w1 σa st1 σ H1 a y v u W _ rl1 (ra.ext e1) ry (PostO.lift p1 fun z z' st2 w2 H2 _ rl2 rz p2 => p2.nxt (rl2.set rz))
  · exact p.elim
theorem pss_one {s : Stmt} (h : PS X s (tMSP Φ c W m)) : PSs X [s] (tMSP Φ c W m) := L2.pss_one h
end
/-! the suite -/
def PhiE (c : Ctx) (j : Nat) (a : Addr) (cls : Value) (d : Option Addr) (x : Exn) : L2.St → Wd → Prop := fun σ w => σ[j]? = some (some (.ref a)) ∧ RX c w x cls d
theorem RX.ext {c : Ctx} {w w' : Wd} {n n' : Nat} {x : Exn} {cls : Value} {d : Option Addr} (e : Ext w n w' n') (h : RX c w x cls d) : RX c w' x cls d := by
  obtain ⟨C, e1, e2, h⟩ := h
  refine ⟨C, e1, e2, ?_⟩
  cases hf : x.fs with
  | none => rw [hf] at h; exact h
  | some fs =>
    rw [hf] at h
    obtain ⟨a, us, h1, h2, h3⟩ := h
    exact ⟨a, us, h1, e.same _ _ h2, DRf.same e.same h3⟩
theorem phi_lasts {c : Ctx} {j : Nat} {a : Addr} {cls : Value} {d : Option Addr} {x : Exn} : Lasts (PhiE c j a cls d x) := fun _ _ _ _ _ e h => ⟨h.1, h.2.ext e⟩
theorem Rel.forget {c : Ctx} {w : Wd} {σa : Slots} {st : Store} {σ : L2.St} {H : Hp} (r : Rel c w σa st σ H) (j : Nat) (v : Option V) : Rel c w (σa.set j none) st (σ.set j v) H :=
  ⟨r.rs, by rw [List.length_set, List.length_set]; exact r.len, fun i b hb => by
    by_cases e : i = j
    · subst e
      by_cases hl : i < σa.length
      · rw [List.getElem?_set_self hl] at hb; cases hb
      · rw [List.getElem?_eq_none (by rw [List.length_set]; omega)] at hb; cases hb
    · rw [List.getElem?_set_ne (Ne.symm e)] at hb
      obtain ⟨u, e1, q⟩ := r.sl i b hb
      exact ⟨u, by rw [List.getElem?_set_ne (Ne.symm e)]; exact e1, q⟩⟩
/-- the name goes at the suite's end -/
def unAs (j : Nat) : Out → Out
  | .nx σ st => .nx (σ.set j none) st
  | .bk σ st => .bk (σ.set j none) st
  | .ct σ st => .ct (σ.set j none) st
  | .rt a st => .rt a st
  | _ => .no
noncomputable def mTryAs (isE : Str → Str → Option Bool) (y : Str) (j : Nat) (b : MS) (s : Exn → MS) : MS := fun σ st => match b σ st with
  | .ex x σ1 st1 => match isE x.cls y with
    | some true => needO (j < σ1.length) (unAs j (s x (σ1.set j none) st1))
    | some false => .ex x σ1 st1
    | none => .no
  | o => o
theorem PostO.unAs {c : Ctx} {W : WX} {w : Wd} {n j : Nat} {D : Ends} : ∀ {o : Out}, PostO c w n W D (Am.unAs j o) →
    PostO c w n (fun _ _ _ _ => False) { nx := fun σ' H' => D.nx (σ'.set j none) H', rt := D.rt, bk := fun σ' H' => D.bk (σ'.set j none) H', ct := fun σ' H' => D.ct (σ'.set j none) H' } o
  | .nx _ _, h => fun σ w1 H1 e r => h _ w1 H1 e (r.forget j none)
  | .bk _ _, h => fun σ w1 H1 e r => h _ w1 H1 e (r.forget j none)
  | .ct _ _, h => fun σ w1 H1 e r => h _ w1 H1 e (r.forget j none)
  | .rt _ _, h => h
  | .ex _ _ _, h => h.elim
  | .no, h => h
theorem pss_ex {X : Cx} {ι : Type} {ss : List Stmt} {t : ι → TS} (h : ∀ i, PSs X ss (t i)) : PSs X ss (fun D σ H => ∃ i, t i D σ H) := ⟨fun pins s σ H D I ⟨i, q⟩ => (h i).run pins s σ H D I q⟩
section
variable {X : Cx} {c : Ctx} {W : WX}
theorem s_tryAs {isE : Str → Str → Option Bool} {y n : Str} {j : Nat} {body suite : List Stmt} {b₀ : Stmt} {np pos pos' : Pos} {b : MS} {s : Exn → MS} (T : ExmT c isE) (hx : ExcT X.K X.mg y) (tk : Takes X W) (hN : X.N.Nodup) (hi : X.N[j]? = some n) (hln : X.env.kindOf n = some .local)
    (hb : ∀ (W : WX) (pn : List (Addr × Obj)) (xe : Value → Shared → Prop), Takes (X.tr pn xe) W → PassesOwn (model X.prog X.w) X.A X.env xe → PSs (X.tr pn xe) body (tMS c W b))
    (hsu : ∀ (a : Addr) (oe : Obj) (cls : Value) (d : Option Addr) (pn : List (Addr × Obj)) (x : Exn), Zc cls d oe → (∃ vs, oe.data = .fields vs) → PSs (X.suite a ((a, oe) :: pn)) (b₀ :: suite) (tMSP (PhiE c j a cls d x) c (fun _ _ _ _ => False) (s x))) (F : Fits X c := by exact ⟨rfl, rfl⟩)
    (hs : X.stack = X.env :: X.outer := by rfl) (hf : X.env.frame = some X.env.locals := by rfl) (hg : Gl X y := by rfl) (nd : (y == ("__debug__" : Str)) = false := by decide) :
    PS X (.Try body [.ExceptHandler (some (.Name y np)) (some n) (b₀ :: suite) pos'] [] [] pos) (tMS c W (mTryAs isE y j b s)) := by
  obtain ⟨Dy, _, _, _, _, _, _, hY, _⟩ := hx
  refine ps_imp (ps_try_as (Wout := W) hs hf hN hi hln ⟨hg, nd, .inl hY⟩ tk hb (fun a oe cls d pn z q => pss_ex fun x => hsu a oe cls d pn x z q)) fun D σ H ⟨w, σa, st, rl, q⟩ => ?_
  refine ⟨w, σa, st, rl, ?_⟩
  unfold mTryAs at q
  cases ho : b σa st with
  | ex x σ1 st1 =>
    rw [ho] at q
    have q : PostO c w st.length W D (match isE x.cls y with | some true => needO (j < σ1.length) (unAs j (s x (σ1.set j none) st1)) | some false => .ex x σ1 st1 | none => .no) := q
    intro σ2 cls d w2 H2 e r rx
    obtain ⟨C, rfl, mC, rd⟩ := id rx
    cases hi : isE x.cls y with
    | none => rw [hi] at q; exact q.elim
    | some bb =>
      rw [hi] at q
      have t := T x.cls y bb C Dy hi mC (F.mg ▸ hY)
      refine ⟨bb, by rw [F.K]; exact t, fun hb a _ => ?_, fun hb => ?_⟩
      · subst hb
        obtain ⟨hj, q⟩ := PostO.need q
        have hlen : j < σ2.length := by rw [r.len]; exact hj
        refine ⟨x, w2, σ1.set j none, st1, ⟨List.getElem?_set_self hlen, rx⟩, r.forget j _, ?_⟩
        exact PostO.unAs (PostO.mono e q)
      · subst hb
        exact q σ2 (.ref C) d w2 H2 e r rx
  | nx _ _ => rw [ho] at q; exact q
  | rt _ _ => rw [ho] at q; exact q
  | bk _ _ => rw [ho] at q; exact q
  | ct _ _ => rw [ho] at q; exact q
  | no => rw [ho] at q; exact q
end
/-! isinstance of the caught error -/
def IsxT (c : Ctx) (isK : Str → Str → Option Bool) : Prop := ∀ (x y : Str) (b : Bool) (D : Addr), isK x y = some b → c.mg x = some (.ref D) →
  ExcC c.K D ∧ ((∃ C, c.mg y = some (.ref C) ∧ PySem.W.kitOne c.K (.ref D) (.ref C) = some b) ∨ (c.mg y = none ∧ ∃ t, bootBuiltins y = some (.type t) ∧ PySem.W.kitOne c.K (.ref D) (.type t) = some b))
def mIsX (isK : Str → Str → Option Bool) (x : Exn) (y : Str) : ME := fun _ st => match x.fs, isK x.cls y with
  | none, some b => .ok (.d (.bl b)) st
  | _, _ => .no
section
variable {X : Cx} {c : Ctx} {W : WX} {isK : Str → Str → Option Bool} {a : Addr} {oe : Obj} {cls : Value} {d : Option Addr} {pn : List (Addr × Obj)} {x : Exn} {j : Nat} {n y : Str} {p np p2 pos : Pos}
theorem p_isx {v : V} (T : IsxT c isK) (hz : Zc cls d oe) (hfd : ∃ vs, oe.data = .fields vs) (hm : c.mg "isinstance" = none) (hy : PE (X.suite a ((a, oe) :: pn)) (.Name y p2) (tC v)) (hv : (∃ C, c.mg y = some (.ref C) ∧ v = .ref C) ∨ (c.mg y = none ∧ ∃ t, bootBuiltins y = some (.type t) ∧ v = .ty t)) (hN : X.N[j]? = some n := by rfl) (F : Fits X c := by exact ⟨rfl, rfl⟩) (hvis : Vis X.env.scope n := by first | exact Or.inl rfl | exact Or.inr (Or.inl rfl) | exact Or.inr (Or.inr rfl)) (hd : (n == ("__debug__" : Str)) = false := by decide)
    (hcd : (n == ("__classdict__" : Str)) = false := by decide) (hgl : Gl X "isinstance" := by rfl)
    (he : starEach [.Name n np, .Name y p2] (X.suite a ((a, oe) :: pn)).env = (false, eval (.Name n np) (X.suite a ((a, oe) :: pn)).env) :: starEach [.Name y p2] (X.suite a ((a, oe) :: pn)).env := by rfl) (hpl : (backTo pos (starEach [.Name y p2] (X.suite a ((a, oe) :: pn)).env)).any (·.1) = false := by rfl) :
    PE (X.suite a ((a, oe) :: pn)) (.Call (.Name "isinstance" p) [.Name n np, .Name y p2] [] pos) (tMP (PhiE c j a cls d x) c W (mIsX isK x y)) := by
  refine ⟨fun pins s σ H Q I q => ?_⟩
  obtain ⟨w, σa, st, ⟨hσ, rx⟩, rl, q⟩ := q
  obtain ⟨D, rfl, mD, rd⟩ := rx
  unfold mIsX at q
  split at q
  · rename_i b hfs hb
    rw [hfs] at rd
    have rd : d = none := rd
    subst rd
    obtain ⟨EC, k⟩ := T x.cls y b D hb mD
    rw [← F.K] at EC
    refine (pe_callB (X := X.suite a ((a, oe) :: pn)) (call_isE EC hz hfd) hgl (F.mg ▸ hm) boot_isinstance (pa_cons (pe_var (i := j) hN hvis hd hcd) (pa_cons hy pa_nil) (hs := he)) (by decide) (by decide) he hpl).run pins s σ H Q I ?_
    rcases hv with ⟨C, mC, rfl⟩ | ⟨mn, t, ht, rfl⟩
    · have kk : PySem.W.kitOne c.K (.ref D) (.ref C) = some b := by
        rcases k with ⟨C', m', h⟩ | ⟨m', _⟩
        · rw [mC] at m'; cases m'; exact h
        · rw [mC] at m'; cases m'
      rw [← F.K] at kk
      exact ⟨_, hσ, .ref C, .ref C, b, rfl, fun u r => r, kk, q.here rl rfl⟩
    · have kk : PySem.W.kitOne c.K (.ref D) (.type t) = some b := by
        rcases k with ⟨C', m', h⟩ | ⟨m', t', ht', h⟩
        · rw [mn] at m'; cases m'
        · rw [ht] at ht'; cases ht'; exact h
      rw [← F.K] at kk
      exact ⟨_, hσ, .ty t, .type t, b, rfl, fun u r => r, kk, q.here rl rfl⟩
  · exact q.elim
theorem p_isxO (T : IsxT c isK) (hz : Zc cls d oe) (hfd : ∃ vs, oe.data = .fields vs) (hm : c.mg "isinstance" = none) (hx : ExcT X.K X.mg y) (hN : X.N[j]? = some n := by rfl) (F : Fits X c := by exact ⟨rfl, rfl⟩) (hvis : Vis X.env.scope n := by first | exact Or.inl rfl | exact Or.inr (Or.inl rfl) | exact Or.inr (Or.inr rfl)) (hd : (n == ("__debug__" : Str)) = false := by decide)
    (hcd : (n == ("__classdict__" : Str)) = false := by decide) (hgl : Gl X "isinstance" := by rfl) (hgy : Gl X y := by rfl) (ndy : (y == ("__debug__" : Str)) = false := by decide)
    (he : starEach [.Name n np, .Name y p2] (X.suite a ((a, oe) :: pn)).env = (false, eval (.Name n np) (X.suite a ((a, oe) :: pn)).env) :: starEach [.Name y p2] (X.suite a ((a, oe) :: pn)).env := by rfl) (hpl : (backTo pos (starEach [.Name y p2] (X.suite a ((a, oe) :: pn)).env)).any (·.1) = false := by rfl) :
    PE (X.suite a ((a, oe) :: pn)) (.Call (.Name "isinstance" p) [.Name n np, .Name y p2] [] pos) (tMP (PhiE c j a cls d x) c W (mIsX isK x y)) := by
  obtain ⟨C, _, _, _, _, _, _, g, _⟩ := hx
  exact p_isx (v := .ref C) T hz hfd hm (Rw.pe_globE hgy ⟨_, g, rfl⟩ ndy) (.inl ⟨C, F.mg ▸ g, rfl⟩) hN F hvis hd hcd hgl he hpl
theorem p_isxB {t : String} (T : IsxT c isK) (hz : Zc cls d oe) (hfd : ∃ vs, oe.data = .fields vs) (hm : c.mg "isinstance" = none) (hn : c.mg y = none) (hv : bootBuiltins y = some (.type t)) (hN : X.N[j]? = some n := by rfl) (F : Fits X c := by exact ⟨rfl, rfl⟩) (hvis : Vis X.env.scope n := by first | exact Or.inl rfl | exact Or.inr (Or.inl rfl) | exact Or.inr (Or.inr rfl)) (hd : (n == ("__debug__" : Str)) = false := by decide)
    (hcd : (n == ("__classdict__" : Str)) = false := by decide) (hgl : Gl X "isinstance" := by rfl) (hgy : Gl X y := by rfl) (nm : y ≠ "__name__" := by decide) (ndy : (y == ("__debug__" : Str)) = false := by decide)
    (he : starEach [.Name n np, .Name y p2] (X.suite a ((a, oe) :: pn)).env = (false, eval (.Name n np) (X.suite a ((a, oe) :: pn)).env) :: starEach [.Name y p2] (X.suite a ((a, oe) :: pn)).env := by rfl) (hpl : (backTo pos (starEach [.Name y p2] (X.suite a ((a, oe) :: pn)).env)).any (·.1) = false := by rfl) :
    PE (X.suite a ((a, oe) :: pn)) (.Call (.Name "isinstance" p) [.Name n np, .Name y p2] [] pos) (tMP (PhiE c j a cls d x) c W (mIsX isK x y)) :=
  p_isx (v := .ty t) T hz hfd hm (pe_bltn (v := .ty t) hgy (F.mg ▸ hn) hv rfl (hn := nm) (hd := ndy)) (.inr ⟨hn, t, hv, rfl⟩) hN F hvis hd hcd hgl he hpl
end
/-! the table of isinstance -/
section
variable {K : PySem.W.Frag} {mg : Str → Option Value}
theorem kit_true {t c : Value} (h : PySem.W.kitCls K t c = some true) : PySem.W.kitOne K t c = some true := by
  unfold PySem.W.kitOne
  split
  · rfl
  · exact h
theorem kit_self {t : Value} : PySem.W.kitOne K t t = some true := by
  unfold PySem.W.kitOne
  rw [if_pos (beq_self_eq_true t)]
theorem kit_own {D C : Addr} (h2 : PySem.W.isClsIn K C = true) (h3 : PySem.W.typeIn K (.ref C) = some (.type "type")) (h4 : PySem.W.subIn K (.ref D) (.ref C) = some true) : PySem.W.kitOne K (.ref D) (.ref C) = some true := kit_true (by
  have h2' : (PySem.W.clsIn K C).isSome = true := h2
  have e2 : ((PySem.W.clsIn K C).isSome && PySem.W.typeIn K (.ref C) == some (.type "type")) = true := by rw [h2', h3] <;> rfl
  show (if ((PySem.W.clsIn K C).isSome && PySem.W.typeIn K (.ref C) == some (.type "type")) = true then PySem.W.subIn K (.ref D) (.ref C) else none) = some true
  rw [if_pos e2, h4])
theorem kit_bi {D : Addr} {t : String} (hm : PySem.W.kitMeta t = true) (h4 : PySem.W.subIn K (.ref D) (.type t) = some true) : PySem.W.kitOne K (.ref D) (.type t) = some true := kit_true (by
  show (if PySem.W.kitMeta t = true then PySem.W.subIn K (.ref D) (.type t) else none) = some true
  rw [if_pos hm, h4])
def IsxP (K : PySem.W.Frag) (mg : Str → Option Value) (p : (Str × Str) × Bool) : Prop := ∀ D, mg p.1.1 = some (.ref D) → ExcC K D ∧ ((∃ C, mg p.1.2 = some (.ref C) ∧ PySem.W.kitOne K (.ref D) (.ref C) = some p.2) ∨ (mg p.1.2 = none ∧ ∃ t, bootBuiltins p.1.2 = some (.type t) ∧ PySem.W.kitOne K (.ref D) (.type t) = some p.2))
theorem isx_mk (tab : List ((Str × Str) × Bool)) (h : ∀ p ∈ tab, IsxP K mg p) : IsxT ⟨K, mg⟩ (fun x y => tab.lookup (x, y)) := fun x y b D hb hD => by
  have hm : ((x, y), b) ∈ tab := by
    clear h
    induction tab with
    | nil => cases hb
    | cons p tab ih =>
      obtain ⟨k, v⟩ := p
      simp only [List.lookup] at hb
      cases hk : (x, y) == k with
      | true =>
        rw [hk] at hb
        cases hb
        rw [eq_of_beq hk]
        exact List.mem_cons_self
      | false => rw [hk] at hb; exact List.mem_cons_of_mem _ (ih hb)
  exact h _ hm D hD
theorem isx_nil : ∀ p ∈ ([] : List ((Str × Str) × Bool)), IsxP K mg p := fun _ h => by cases h
theorem isx_own {x y : Str} {D C : Addr} {tab : List ((Str × Str) × Bool)} (hx : mg x = some (.ref D)) (e : ExcC K D) (hy : mg y = some (.ref C)) (k : PySem.W.kitOne K (.ref D) (.ref C) = some true) (h : ∀ p ∈ tab, IsxP K mg p) : ∀ p ∈ ((x, y), true) :: tab, IsxP K mg p := fun p hp => by
  rcases List.mem_cons.mp hp with rfl | hp
  · intro D' hD
    rw [hx] at hD
    cases hD
    exact ⟨e, .inl ⟨C, hy, k⟩⟩
  · exact h p hp
theorem isx_bi {x y : Str} {D : Addr} {t : String} {tab : List ((Str × Str) × Bool)} (hx : mg x = some (.ref D)) (e : ExcC K D) (hy : mg y = none) (hb : bootBuiltins y = some (.type t)) (k : PySem.W.kitOne K (.ref D) (.type t) = some true) (h : ∀ p ∈ tab, IsxP K mg p) : ∀ p ∈ ((x, y), true) :: tab, IsxP K mg p := fun p hp => by
  rcases List.mem_cons.mp hp with rfl | hp
  · intro D' hD
    rw [hx] at hD
    cases hD
    exact ⟨e, .inr ⟨hy, t, hb, k⟩⟩
  · exact h p hp
theorem boot_ValueError : bootBuiltins ("ValueError" : Str) = some (.type "ValueError") := by decide +kernel
end
end Am
/-! ### Am: sorted() of tuples of texts -/
namespace SrtP
open PySem PySem.Spec PyProof.Rows SrtO
/-- by the signs -/
def ltS (a b : Str) : Bool := decide (a.cps.toList < b.cps.toList)
/-- tuples of texts in Python's order -/
def ltP : List Str → List Str → Bool
  | [], [] => false
  | [], _ :: _ => true
  | _ :: _, [] => false
  | a :: as, b :: bs => if a = b then ltP as bs else ltS a b
theorem ltS_irr (a : Str) : ltS a a = false := decide_eq_false (List.lt_irrefl _)
theorem ltS_asym {a b : Str} (h : ltS a b = true) : ltS b a = false := decide_eq_false (List.lt_asymm (of_decide_eq_true h))
theorem ltS_tot {a b : Str} (h1 : ltS a b = false) (h2 : ltS b a = false) : a = b := by
  have h1 := of_decide_eq_false h1
  have h2 := of_decide_eq_false h2
  have e := List.le_antisymm (List.not_lt.mp h2) (List.not_lt.mp h1)
  cases a; cases b
  simp only [Str.mk.injEq]
  exact Array.toList_inj.mp e
theorem ltS_trans {a b c : Str} (h1 : ltS a b = true) (h2 : ltS b c = true) : ltS a c = true := decide_eq_true (List.lt_trans (of_decide_eq_true h1) (of_decide_eq_true h2))
theorem ltP_asym : ∀ x y : List Str, ltP x y = true → ltP y x = false
  | [], [], _ => rfl
  | [], _ :: _, _ => rfl
  | _ :: _, [], h => by cases h
  | a :: as, b :: bs, h => by
    unfold ltP at h ⊢
    by_cases e : a = b
    · rw [if_pos e] at h
      rw [if_pos e.symm]
      exact ltP_asym as bs h
    · rw [if_neg e] at h
      rw [if_neg (Ne.symm e)]
      exact ltS_asym h
theorem ltP_tot : ∀ x y : List Str, ltP x y = false → ltP y x = false → x = y
  | [], [], _, _ => rfl
  | [], _ :: _, h, _ => by cases h
  | _ :: _, [], _, h => by cases h
  | a :: as, b :: bs, h1, h2 => by
    unfold ltP at h1 h2
    by_cases e : a = b
    · rw [if_pos e] at h1
      rw [if_pos e.symm] at h2
      rw [e, ltP_tot as bs h1 h2]
    · rw [if_neg e] at h1
      rw [if_neg (Ne.symm e)] at h2
      exact absurd (ltS_tot h1 h2) e
theorem ltP_trans : ∀ x y z : List Str, ltP x y = true → ltP y z = true → ltP x z = true
  | [], [], _, h, _ => by cases h
  | [], _ :: _, [], _, h => by cases h
  | [], _ :: _, _ :: _, _, _ => rfl
  | _ :: _, [], _, h, _ => by cases h
  | _ :: _, _ :: _, [], _, h => by cases h
  | a :: as, b :: bs, c :: cs, h1, h2 => by
    unfold ltP at h1 h2 ⊢
    by_cases e : a = b
    · subst e
      rw [if_pos rfl] at h1
      by_cases e2 : a = c
      · rw [if_pos e2] at h2 ⊢
        exact ltP_trans as bs cs h1 h2
      · rw [if_neg e2] at h2 ⊢
        exact h2
    · rw [if_neg e] at h1
      by_cases e2 : b = c
      · subst e2
        rw [if_neg e]
        exact h1
      · rw [if_neg e2] at h2
        have h3 := ltS_trans h1 h2
        rw [if_neg fun z => by rw [z, ltS_irr] at h3; cases h3]
        exact h3
theorem ltP_swo : Swo ltP := ⟨ltP_asym, fun x y z h1 h2 => by
  rcases bcase (ltP z x) with h | h
  · -- z < x; y ≤ .. : compare y with x and z
    rcases bcase (ltP x y) with q | q
    · rw [ltP_trans z x y h q] at h2; cases h2
    · have e := ltP_tot x y q h1
      rw [e, h2] at h; cases h
  · exact h⟩
theorem swo_on {α : Type} (k : α → List Str) : Swo fun x y => ltP (k x) (k y) := ⟨fun x y => ltP_asym _ _, fun x y z => ltP_swo.tr _ _ _⟩
/-- the texts of values -/
def StrVs : List Value → List Str → Prop
  | [], [] => True
  | v :: vs, s :: ss => (∃ t, v = .str s t) ∧ StrVs vs ss
  | _, _ => False
def IsPath (h : Heap) (v : Value) (ss : List Str) : Prop := ∃ (a : Addr) (o : Obj) (its : List Value) (n : Nat), v = .ref a ∧ h.get? a = some o ∧ o.cls = .type "tuple" ∧ o.data = .seq its.toArray n ∧ StrVs its ss
theorem IsPath.keeps {h h' : Heap} {v : Value} {ss : List Str} (p : IsPath h v ss) (k : ∀ b o, h.get? b = some o → o.cls = .type "tuple" → h'.get? b = some o) : IsPath h' v ss := by
  obtain ⟨a, o, its, n, e, ho, hc, hd, q⟩ := p
  exact ⟨a, o, its, n, e, k _ _ ho hc, hc, hd, q⟩
section
variable {prog : Program} {w : World} {A : Around} {E : Value → Shared → Prop} {s : Shared}
def lexR (fin : Bool) : List Str → List Str → Bool
  | a :: as, b :: bs => if a = b then lexR fin as bs else ltS a b
  | [], _ => fin
  | _ :: _, [] => fin
theorem lex_paths : ∀ (us vs : List Value) (as bs : List Str) (i : Nat) (fin : Bool), StrVs us as → StrVs vs bs → PySem.W.KatLex prog w A true fin (fun r s' => s' = s ∧ r = lexR fin as bs) (us.zip vs) i s
  | [], vs, [], bs, i, fin, _, _ => by
    rw [List.zip_nil_left]
    exact PySem.W.kat_nil ⟨rfl, rfl⟩
  | _ :: _, [], _ :: _, [], i, fin, _, _ => by
    rw [List.zip_nil_right]
    exact PySem.W.kat_nil ⟨rfl, rfl⟩
  | u :: us, v :: vs, a :: as, b :: bs, i, fin, ⟨⟨t, hu⟩, h1⟩, ⟨⟨t', hv⟩, h2⟩ => by
    subst hu hv
    have e0 : lexR fin (a :: as) (b :: bs) = if a = b then lexR fin as bs else ltS a b := rfl
    rw [e0, List.zip_cons_cons]
    refine PySem.W.kat_cons (SeqAt.EqAt.str_str a t b t' prog w _ _ ?_)
    refine PySem.W.kat_go (fun e1 => ?_) (fun e1 => ?_)
    · have ea : a = b := by simpa using e1
      rw [if_pos ea]
      exact PySem.W.kat_yes (lex_paths us vs as bs (i + 1) fin h1 h2)
    · have ea : ¬ a = b := by simpa using e1
      rw [if_neg ea]
      refine PySem.W.kat_no ?_
      cases hb : (true && i == 0) with
      | true => exact oneLt_str ⟨rfl, rfl⟩
      | false => exact PySem.W.kat_one _ _ (PyProof.Rows.lt_str ⟨rfl, rfl⟩)
  | [], _, _ :: _, _, _, _, h, _ => h.elim
  | _ :: _, _, [], _, _, _, h, _ => h.elim
  | _ :: _, [], _ :: _, _ :: _, _, _, _, h => h.elim
  | _ :: _, _ :: _, _ :: _, [], _, _, _, h => h.elim
theorem lt_fin : ∀ as bs : List Str, lexR (decide (as.length < bs.length)) as bs = ltP as bs
  | [], [] => rfl
  | [], b :: bs => decide_eq_true (Nat.zero_lt_succ _)
  | a :: as, [] => decide_eq_false (by rw [List.length_nil]; omega)
  | a :: as, b :: bs => by
    have e : decide ((a :: as).length < (b :: bs).length) = decide (as.length < bs.length) := by
      by_cases l : as.length < bs.length
      · rw [decide_eq_true l]; exact decide_eq_true (by rw [List.length_cons, List.length_cons]; omega)
      · rw [decide_eq_false l]; exact decide_eq_false (by rw [List.length_cons, List.length_cons]; omega)
    rw [e]
    show (if a = b then lexR _ as bs else ltS a b) = if a = b then ltP as bs else ltS a b
    rw [lt_fin as bs]
theorem strVs_len : ∀ {us : List Value} {ss : List Str}, StrVs us ss → us.length = ss.length
  | [], [], _ => rfl
  | _ :: _, _ :: _, ⟨_, h⟩ => by rw [List.length_cons, List.length_cons, strVs_len h]
  | [], _ :: _, h => h.elim
  | _ :: _, [], h => h.elim
theorem path_tup {h : Heap} {v : Value} {ss : List Str} (p : IsPath h v ss) : ∃ (a : Addr) (its : List Value), v = .ref a ∧ h.IsTuple a its.toArray ∧ StrVs its ss := by
  obtain ⟨a, o, its, n, e, ho, hc, hd, hs⟩ := p
  exact ⟨a, its, e, ⟨o, ho, hc, n, hd⟩, hs⟩
theorem strVs_get : ∀ {us : List Value} {ss : List Str} (j : Nat) (h : j < us.length), StrVs us ss → ∃ t, us[j] = .str (ss.getD j default) t
  | _ :: _, _ :: _, 0, _, ⟨⟨t, e⟩, _⟩ => ⟨t, e⟩
  | _ :: us, _ :: ss, j + 1, h, ⟨_, q⟩ => by
    obtain ⟨t, e⟩ := strVs_get (us := us) (ss := ss) j (Nat.lt_of_succ_lt_succ h) q
    exact ⟨t, by simpa using e⟩
  | [], _, _, h, _ => absurd h (Nat.not_lt_zero _)
  | _ :: _, [], _, _, q => q.elim
theorem first_lt : ∀ as bs : List Str, SeqAt.firstLt (fun j => as.getD j default == bs.getD j default) (fun j => ltS (as.getD j default) (bs.getD j default)) (decide (as.length < bs.length)) (List.range (min as.length bs.length)) = ltP as bs
  | [], [] => rfl
  | [], b :: bs => by
    rw [show min ([] : List Str).length (b :: bs).length = 0 by simp]
    exact decide_eq_true (Nat.zero_lt_succ _)
  | a :: as, [] => by
    rw [show min (a :: as).length ([] : List Str).length = 0 by simp]
    exact decide_eq_false (by rw [List.length_nil]; omega)
  | a :: as, b :: bs => by
    have e1 : min (a :: as).length (b :: bs).length = min as.length bs.length + 1 := by rw [List.length_cons, List.length_cons]; omega
    have e2 : decide ((a :: as).length < (b :: bs).length) = decide (as.length < bs.length) := by
      by_cases l : as.length < bs.length
      · rw [decide_eq_true l]; exact decide_eq_true (by rw [List.length_cons, List.length_cons]; omega)
      · rw [decide_eq_false l]; exact decide_eq_false (by rw [List.length_cons, List.length_cons]; omega)
    rw [e1, e2, List.range_succ_eq_map]
    show _ = if a = b then ltP as bs else ltS a b
    by_cases e : a = b
    · rw [if_pos e, SeqAt.firstLt_yes (show ((a == b : Bool)) = true by subst e; exact beq_self_eq_true a), PySem.W.firstLt_map]
      exact first_lt as bs
    · rw [if_neg e, SeqAt.firstLt_no (show ((a == b : Bool)) = false from beq_eq_false_iff_ne.mpr e)]
      rfl
theorem path_items {h : Heap} {its its' : List Value} {as bs : List Str} (hs : StrVs its as) (hs' : StrVs its' bs) {A : Around} {s : Shared} :
    (∀ j (h1 : j < its.toArray.size) (h2 : j < its'.toArray.size), SeqAt.EqAt A s its.toArray[j] its'.toArray[j] (as.getD j default == bs.getD j default)) ∧
    (∀ j (h1 : j < its.toArray.size) (h2 : j < its'.toArray.size), (as.getD j default == bs.getD j default) = false → SeqAt.RcLt A s its.toArray[j] its'.toArray[j] (ltS (as.getD j default) (bs.getD j default))) := by
  refine ⟨fun j h1 h2 => ?_, fun j h1 h2 _ => ?_⟩
  · obtain ⟨t, e⟩ := strVs_get j (by simpa using h1) hs
    obtain ⟨t', e'⟩ := strVs_get j (by simpa using h2) hs'
    rw [List.getElem_toArray, List.getElem_toArray, e, e']
    exact SeqAt.EqAt.str_str _ _ _ _
  · obtain ⟨t, e⟩ := strVs_get j (by simpa using h1) hs
    obtain ⟨t', e'⟩ := strVs_get j (by simpa using h2) hs'
    rw [List.getElem_toArray, List.getElem_toArray, e, e']
    exact fun prog w E Q h => PySem.P.lt_str h
theorem path_rc {v u : Value} {as bs : List Str} (h1 : IsPath s.heap v as) (h2 : IsPath s.heap u bs) (hu : A.units < cLine) : SeqAt.RcLt A s v u (ltP as bs) := by
  obtain ⟨a, its, rfl, ht, hs⟩ := path_tup h1
  obtain ⟨a', its', rfl, ht', hs'⟩ := path_tup h2
  obtain ⟨q1, q2⟩ := path_items (h := s.heap) hs hs' (A := A.in1) (s := s)
  have := SeqAt.RcLt.tuples ht ht' hu q1 q2
  rw [List.size_toArray, List.size_toArray, strVs_len hs, strVs_len hs', first_lt] at this
  exact this
theorem call_tuple_lt {E : Value → Shared → Prop} {Q : Value → Shared → Prop} {l b : Addr} {items items2 : Array Value} {e r : Nat → Bool} (hl : s.heap.IsTuple l items) (hb : s.heap.IsTuple b items2)
    (he : ∀ j (h1 : j < items.size) (h2 : j < items2.size), SeqAt.EqAt A.in1 s items[j] items2[j] (e j)) (hr : ∀ j (h1 : j < items.size) (h2 : j < items2.size), e j = false → SeqAt.RcLt A.in1 s items[j] items2[j] (r j))
    (h : Q (.bool (SeqAt.firstLt e r (decide (items.size < items2.size)) (List.range (min items.size items2.size)))) s) : wpAny (model prog w) A (call (.builtin "tuple.__lt__") [.ref l, .ref b]) Q E s := by
  obtain ⟨⟨cls, dd, data, sl⟩, ho, hc, n, hd⟩ := id hl
  obtain ⟨⟨cls2, dd2, data2, sl2⟩, ho2, hc2, n2, hd2⟩ := id hb
  simp only at hc hd hc2 hd2
  subst hc hd hc2 hd2
  exact call_meets PySem.F.slot_tuple_lt ⟨_, ho, rfl⟩ PySem.F.entry_tuple_lt (PySem.F.args_tuple_lt_2 _ _) (SeqAt.tuple_ltAt l b items items2 n n2 dd dd2 sl sl2 e r) ⟨ho, ho2, he, hr, h⟩
theorem path_one {v u : Value} {as bs : List Str} {Q : Bool → Shared → Prop} (f : Bool) (h1 : IsPath s.heap v as) (h2 : IsPath s.heap u bs) (hu : A.units < cLine) (hq : Q (ltP as bs) s) : wpAny (model prog w) A (oneLt' f v u) Q E s := by
  cases f with
  | false =>
    rw [oneLt'_eq]
    simp only [Bool.false_eq_true, if_false]
    exact wpAny_bind (path_rc h1 h2 hu prog w E _ (wpAny_truthy_bool hq))
  | true =>
    obtain ⟨a, its, rfl, ht, hs⟩ := path_tup h1
    obtain ⟨a', its', rfl, ht', hs'⟩ := path_tup h2
    obtain ⟨q1, q2⟩ := path_items (h := s.heap) hs hs' (A := A.in1) (s := s)
    obtain ⟨o, ho, hc, _⟩ := id ht
    rw [oneLt'_eq]
    simp only [if_true]
    refine wpAny_bind (wpAny_cRoomFor hu ?_)
    refine wpAny_bind (wpAny_callSpecialIfBound?_slot (T := "tuple") ⟨_, ho, hc⟩ PySem.F.slot_tuple_lt (call_tuple_lt ht ht' q1 q2 ?_))
    rw [List.size_toArray, List.size_toArray, strVs_len hs, strVs_len hs', first_lt]
    exact wpAny_truthy_bool hq
theorem path_cmp {vs : List Value} {k : Value → List Str} (hp : ∀ v ∈ vs, IsPath s.heap v (k v)) : Cmp prog w A s (tuples' true) (fun p => p.1 ∈ vs) (lt2 fun v u => ltP (k v) (k u)) := by
  intro p q hm hm'
  have h1 := hp _ hm
  have h2 := hp _ hm'
  show wpAny (model prog w) A (keyLt' (tuples' true) p.1 q.1) (fun r s' => s' = s ∧ r = ltP (k p.1) (k q.1)) (fun _ _ => False) s
  obtain ⟨a, o, its, n, e, ho, hc, hd, hs⟩ := h1
  obtain ⟨a', o', its', n', e', ho', hc', hd', hs'⟩ := h2
  rw [e, e'] at *
  refine PySem.W.kat_lt ho hd ho' hd' ?_
  have := lex_paths (prog := prog) (w := w) (A := A) (s := s) its its' _ _ 0 (decide ((k (.ref a)).length < (k (.ref a')).length)) hs hs'
  rw [lt_fin] at this
  have el : decide (its.toArray.size < its'.toArray.size) = decide ((k (.ref a)).length < (k (.ref a')).length) := by
    rw [List.size_toArray, List.size_toArray, strVs_len hs, strVs_len hs']
  rw [el]
  exact this
theorem path_cmpE {vs : List Value} {k : Value → List Str} {κ : SortKind} (f : Bool) (hκ : ∀ x y, keyLt' κ x y = oneLt' f x y) (hu : A.units < cLine) (hp : ∀ v ∈ vs, IsPath s.heap v (k v)) : Cmp prog w A s κ (fun p => p.1 ∈ vs) (lt2 fun v u => ltP (k v) (k u)) := by
  intro p q hm hm'
  rw [hκ]
  exact path_one f (hp _ hm) (hp _ hm') hu ⟨rfl, rfl⟩
theorem firsts_of {h : Heap} : ∀ {vs : List Value}, (∀ v ∈ vs, ∃ ss, ss ≠ [] ∧ IsPath h v ss) → ∃ fs : List Value, PySem.W.KatTups h vs fs ∧ fs.length = vs.length ∧ ∀ f ∈ fs, ∃ x t, f = Value.str x t
  | [], _ => ⟨[], PySem.W.KatTups.nil, rfl, fun _ hm => by simp at hm⟩
  | v :: vs, hp => by
    obtain ⟨fs, h1, h2, h3⟩ := firsts_of (vs := vs) fun v' hm => hp v' (List.mem_cons_of_mem _ hm)
    obtain ⟨ss, hne, a, o, its, n, e, ho, hc, hd, hs⟩ := hp v (List.mem_cons_self ..)
    subst e
    cases its with
    | nil => cases ss with
      | nil => exact absurd rfl hne
      | cons _ _ => exact hs.elim
    | cons f its => cases ss with
      | nil => exact absurd rfl hne
      | cons x ss =>
        obtain ⟨⟨t, rfl⟩, _⟩ := hs
        refine ⟨.str x t :: fs, PySem.W.KatTups.cons ho hc hd rfl h1, by rw [List.length_cons, List.length_cons, h2], fun f hm => ?_⟩
        rcases List.mem_cons.mp hm with rfl | hm
        · exact ⟨x, t, rfl⟩
        · exact h3 f hm
/-- the first items, none of an empty tuple -/
theorem firsts_any {M : Model} : ∀ {vs : List Value}, (∀ v ∈ vs, ∃ ss, IsPath s.heap v ss) → ∃ fs : List (Option Value), fs.length = vs.length ∧ (∀ (j : Nat) (v : Value) (f : Option Value) (ss : List Str), vs[j]? = some v → fs[j]? = some f → IsPath s.heap v ss → (f.isSome = true ↔ ss ≠ [])) ∧ ∀ {Q : List (Option Value) → Shared → Prop}, Q fs s → wpAny M A (vs.mapM firstOfTuple') Q E s
  | [], _ => ⟨[], rfl, fun _ _ _ _ h => by simp at h, fun h => by rw [List.mapM_nil]; exact wpAny_pure h⟩
  | v :: vs, hp => by
    obtain ⟨fs, h1, h2, h3⟩ := firsts_any (M := M) (vs := vs) fun v' hm => hp v' (List.mem_cons_of_mem _ hm)
    obtain ⟨ss, a, o, its, n, e, ho, hc, hd, hs⟩ := hp v (List.mem_cons_self ..)
    subst e
    refine ⟨its.toArray[0]? :: fs, by rw [List.length_cons, List.length_cons, h1], fun j v f ss' hv hf hpp => ?_, fun {Q} hq => ?_⟩
    · cases j with
      | succ j => exact h2 j v f ss' (by simpa using hv) (by simpa using hf) hpp
      | zero =>
        cases hv
        cases hf
        obtain ⟨a2, o2, its2, n2, e2, ho2, hc2, hd2, hs2⟩ := hpp
        cases e2
        rw [ho] at ho2
        cases ho2
        rw [hd] at hd2
        have : its2 = its := by
          have := (Data.seq.inj hd2).1
          simpa using this.symm
        subst this
        cases its2 with
        | nil => cases ss' with
          | nil => exact ⟨fun h => by simp at h, fun h => absurd rfl h⟩
          | cons _ _ => exact hs2.elim
        | cons x xs => cases ss' with
          | nil => exact hs2.elim
          | cons _ _ => exact ⟨fun _ => (fun z => nomatch z), fun _ => by simp⟩
    · rw [List.mapM_cons]
      refine wpAny_bind ?_
      rw [PySem.W.kas_first_eq]
      refine wpAny_bind (PySem.W.Looks.here (show PySem.W.Looks M s.heap (typeOf (.ref a)) o.cls from (PySem.W.Looks.ld ho).andThen .now) ?_)
      rw [hc, if_neg (by first | decide | simp)]
      refine wpAny_bind (listItems_at ho hd (wpAny_pure ?_))
      exact wpAny_bind (h3 (wpAny_pure hq))
theorem paths_sortable {a : Addr} {vs : List Value} {k : Value → List Str} (h2 : 2 ≤ vs.length) (hu : A.units < cLine) (hp : ∀ v ∈ vs, IsPath s.heap v (k v)) (ha : ∀ o, s.heap.get? a = some o → o.cls ≠ .type "tuple") : SortableO prog w A s a vs fun v u => ltP (k v) (k u) := by
  intro h' keep
  have hp' : ∀ v ∈ vs, IsPath h' v (k v) := fun v hm => (hp v hm).keeps fun b o e c => keep b o (fun z => by subst z; exact ha o e c) e
  by_cases hne : ∀ v ∈ vs, k v ≠ []
  · obtain ⟨fs, h1, h2, h3⟩ := firsts_of fun v hm => ⟨_, hne v hm, hp' v hm⟩
    refine ⟨tuples' true, fun Q E hq => ?_, path_cmp hp'⟩
    refine PySem.W.kat_kind (T := .type "str") h1 (by omega) (fun f hm => ?_) (by rfl) ?_
    · obtain ⟨x, t, rfl⟩ := h3 f hm
      exact PySem.W.Looks.now
    · have e : (Value.type "str" != Value.type "tuple") = true := by first | decide +kernel | rfl | decide
      rw [e]
      exact hq
  · have hex : ∃ v ∈ vs, k v = [] := Classical.byContradiction fun z => hne fun v hv e => z ⟨v, hv, e⟩
    obtain ⟨v0, hv0, hk0⟩ := hex
    by_cases hf : ∃ v, vs[0]? = some v ∧ k v ≠ []
    · obtain ⟨v, hv, hkv⟩ := hf
      refine ⟨general', fun Q E hq => ?_, path_cmpE false (fun _ _ => rfl) hu hp'⟩
      obtain ⟨fs, l1, l2, l3⟩ := firsts_any (s := { s with heap := h' }) (A := A) (E := E) (M := model prog w) (vs := vs) fun v hm => ⟨_, hp' v hm⟩
      rw [kat_kind_eq, List.mapM_toArray, map_eq_pure_bind]
      refine wpAny_bind (wpAny_bind (l3 (wpAny_pure ?_)))
      have n1 : ¬ (fs.toArray.all fun x => x.isSome) = true := fun h => by
        obtain ⟨j, hj⟩ := List.mem_iff_getElem?.mp hv0
        have hjl : j < fs.length := by rw [l1]; exact (List.getElem?_eq_some_iff.mp hj).1
        have := (l2 j v0 fs[j] [] hj (List.getElem?_eq_getElem hjl) (by rw [← hk0]; exact hp' v0 hv0)).mp (by
          rw [List.all_toArray, List.all_eq_true] at h
          exact h _ (List.getElem_mem hjl))
        exact this rfl
      rw [if_neg n1]
      have hfl : 0 < fs.length := by rw [l1]; omega
      have n2 : (fs.toArray[0]?.bind id).isSome = true := by
        have := (l2 0 v fs[0] (k v) hv (List.getElem?_eq_getElem hfl) (hp' v (List.mem_of_getElem? hv))).mpr hkv
        rw [List.getElem?_toArray, List.getElem?_eq_getElem hfl]
        exact this
      rw [if_pos n2]
      exact wpAny_pure hq
    · refine ⟨oneType', fun Q E hq => ?_, path_cmpE true (fun _ _ => rfl) hu hp'⟩
      obtain ⟨fs, l1, l2, l3⟩ := firsts_any (s := { s with heap := h' }) (A := A) (E := E) (M := model prog w) (vs := vs) fun v hm => ⟨_, hp' v hm⟩
      rw [kat_kind_eq, List.mapM_toArray, map_eq_pure_bind]
      refine wpAny_bind (wpAny_bind (l3 (wpAny_pure ?_)))
      have hfl : 0 < fs.length := by rw [l1]; omega
      obtain ⟨v, hv⟩ : ∃ v, vs[0]? = some v := ⟨_, List.getElem?_eq_getElem (by omega)⟩
      have hkv : k v = [] := Classical.byContradiction fun z => hf ⟨v, hv, z⟩
      have n3 : ¬ fs[0].isSome = true := fun h => (l2 0 v fs[0] (k v) hv (List.getElem?_eq_getElem hfl) (hp' v (List.mem_of_getElem? hv))).mp h hkv
      have n1 : ¬ (fs.toArray.all fun x => x.isSome) = true := fun h => n3 (by
        rw [List.all_toArray, List.all_eq_true] at h
        exact h _ (List.getElem_mem hfl))
      rw [if_neg n1]
      have n2 : ¬ (fs.toArray[0]?.bind id).isSome = true := by
        rw [List.getElem?_toArray, List.getElem?_eq_getElem hfl]
        exact n3
      rw [if_neg n2, oneTypeOnly'_eq, List.mapM_toArray, map_eq_pure_bind]
      have hT : ∀ v ∈ vs, PySem.W.Looks (model prog w) h' (typeOf v) (.type "tuple") := fun v hv => by
        obtain ⟨a, o, its, n, e, ho, hc, _, _⟩ := hp' v hv
        subst e
        rw [← hc]
        exact (PySem.W.Looks.ld ho).andThen .now
      obtain ⟨v₁, rest, rfl⟩ : ∃ v₁ rest, vs = v₁ :: rest := by
        match vs, h2 with
        | v₁ :: rest, _ => exact ⟨v₁, rest, rfl⟩
      refine wpAny_bind (wpAny_bind (wpAny_bind (PySem.W.kas_mapM (r := .type "tuple") _ (fun v hv Q' hq => (hT v hv).here hq) (wpAny_pure ?_))))
      have hall : ((List.map (fun _ => Value.type "tuple") (v₁ :: rest)).toArray.all fun x => x == Value.type "tuple") = true := by
        simp only [List.all_toArray, List.all_map, List.all_eq_true]
        intro _ _
        rfl
      have h0 : (List.map (fun _ => Value.type "tuple") (v₁ :: rest)).toArray[0]? = some (.type "tuple") := by simp
      rw [h0]
      show wpAny _ _ (pure (if _ = true then _ else none)) _ _ _
      rw [if_pos hall]
      exact wpAny_pure (wpAny_pure hq)
/-- sorted(l) of tuples of texts -/
theorem sorted_paths {l : Addr} {vs : List Value} {k : Value → List Str} {Q : Value → Shared → Prop} (hu : A.in1.in1.units < cLine) (hl : s.heap.IsList l vs.toArray) (hz : vs.length ≤ sizeLine) (hp : ∀ v ∈ vs, IsPath s.heap v (k v))
    (h : ∀ (h' : Heap) (d : Addr) (out : List Value), Srtd (fun v u => ltP (k v) (k u)) out → Stb (fun v u => ltP (k v) (k u)) out vs → (∀ b o, s.heap.get? b = some o → h'.get? b = some o) → s.heap.objs.size ≤ d → (∃ n, h'.get? d = some (seqObj "list" out.toArray n)) → Q (.ref d) { s with heap := h' }) :
    wpAny (model prog w) A (call (.builtin "sorted") [.ref l]) Q E s := by
  refine sorted_ord (swo_on k) hl hz (fun h2 h₁ a ha kk => ?_) fun out hs hb => ?_
  · refine paths_sortable (s := { s with heap := h₁ }) h2 hu (fun v hm => (hp v hm).keeps fun b o e _ => (kk b o e).2) fun o e => ?_
    have e' : some o = some (seqObj "list" vs.toArray 0) := e.symm.trans ha
    cases e'
    intro c
    exact absurd (Value.type.inj c) (by decide)
  · exact h _ _ out hs hb (fun b o e => sortedAll_old e) (Nat.le_succ _) (sortedAll_at s.heap vs out.toArray)
end
end SrtP
/-! ### sorted() of paths as rules of the layer -/
namespace SrtP
open PySem PySem.Spec PyProof.Rows SrtO L2
/-- the texts of a tracked tuple -/
def txts : List V → List Str
  | [] => []
  | .str s :: r => s :: txts r
  | _ :: r => txts r
theorem txts_map : ∀ ss : List Str, txts (ss.map V.str) = ss
  | [] => rfl
  | s :: ss => by show s :: txts (ss.map V.str) = _; rw [txts_map ss]
def keyH (H : Hp) : V → List Str
  | .ref a => match H a with
    | some (.tup vs) => txts vs
    | _ => []
  | _ => []
theorem keyH_at {H : Hp} {a : Addr} {ss : List Str} (h : H a = some (.tup (ss.map V.str))) : keyH H (.ref a) = ss := by
  show (match H a with | some (.tup vs) => txts vs | _ => []) = ss
  rw [h]
  exact txts_map ss
theorem strVs_of : ∀ {ss : List Str} {us : List Value}, Vals (ss.map V.str) us → StrVs us ss
  | [], _, h => by cases h; trivial
  | s :: ss, _, h => by
    cases h with
    | cons a b => exact ⟨a, strVs_of b⟩
theorem path_at {X : Cx} {pins : List (Addr × Obj)} {σ : L2.St} {H : Hp} {s : Shared} (I : Inv X pins σ H s) {a : Addr} {ss : List Str} (h : H a = some (.tup (ss.map V.str))) : IsPath s.heap (.ref a) ss := by
  obtain ⟨_, its, r, o, ho, hc, n, hd⟩ := I.hok _ _ h
  exact ⟨a, o, its, n, rfl, ho, hc, hd, strVs_of r⟩
/-- sorted(xs), xs a list of tuples of texts -/
def rSortPth (K : PySem.W.Frag) : List V → Hp → VK → Prop := fun vs H Q => ∃ (a : Addr) (xs : List V), vs = [V.ref a] ∧ SqL K H a xs ∧ (∀ x ∈ xs, ∃ (t : Addr) (ss : List Str), x = V.ref t ∧ H t = some (.tup (ss.map V.str))) ∧
  ∀ ys p, ys.Perm xs → (ys.map (keyH H)).Pairwise (fun x y => ltP y x = false) → H p = none → Q (.ref p) (upd H p (.lst ys))
/-- sorted(d), d a dict whose keys are tuples of texts -/
def rSortDT : List V → Hp → VK → Prop := fun vs H Q => ∃ (d : Addr) (kvs : List (List Key × V)), vs = [V.ref d] ∧ Rd H d (.dT kvs) ∧ (∀ kv ∈ kvs, ∃ ss : List Str, kv.1 = ss.map Sum.inr) ∧
  ∀ (bs ys : List Addr) (p : Addr), IsKeys H kvs bs → ys.Perm bs → (ys.map fun b => keyH H (.ref b)).Pairwise (fun x y => ltP y x = false) → H p = none → Q (.ref p) (upd H p (.lst (ys.map V.ref)))
theorem isKeys_get {H : Hp} {kvs : List (List Key × V)} {bs : List Addr} (h : IsKeys H kvs bs) : ∀ {j : Nat} {b : Addr}, bs[j]? = some b → ∃ kv, kvs[j]? = some kv ∧ H b = some (.tup (kv.1.map kV)) := by
  unfold IsKeys at h
  induction h with
  | nil => intro j b hj; cases hj
  | cons r _ ih =>
    intro j b hj
    cases j with
    | zero => cases hj; exact ⟨_, rfl, r⟩
    | succ j => exact ih hj
section
variable {X : Cx}
theorem srtd_pw {α : Type} {k : α → List Str} {l : List α} (h : Srtd (fun x y => ltP (k x) (k y)) l) : (l.map k).Pairwise (fun x y => ltP y x = false) := List.pairwise_map.mpr h
theorem cr_sortPth (hu : X.A.units + 64 < cLine) : CallR X (.builtin "sorted") (rSortPth X.K) := by
  intro pins s σ H vs us Q I r h
  obtain ⟨a, xs, rfl, hs, hx, q⟩ := h
  obtain ⟨its, rv, hl, hz⟩ := I.list hs
  obtain ⟨u, rfl, ru⟩ := vals1 r
  obtain rfl : u = Value.ref a := ru
  obtain ⟨e1, e2⟩ := refs_back rv fun x m => by
    obtain ⟨t, _, e, _⟩ := hx x m
    exact ⟨t, e⟩
  refine sorted_paths (k := fun u => keyH H (backV u)) (by show X.A.units + 1 + 1 < cLine; omega) hl.isList (by rw [← rv.length]; exact hz) (fun v hv => ?_) fun h' d out h1 h2 kp hd hn => ?_
  · obtain ⟨t, rfl⟩ := e2 v hv
    have hm : V.ref t ∈ xs := by rw [e1]; exact List.mem_map.mpr ⟨_, hv, rfl⟩
    obtain ⟨t', ss, e, ht⟩ := hx _ hm
    cases e
    show IsPath s.heap (.ref t) (keyH H (V.ref t))
    rw [keyH_at ht]
    exact path_at I ht
  · have h3 : ∀ u ∈ out, ∃ a, u = Value.ref a := fun u hu => e2 u (h2.perm.mem_iff.mp hu)
    obtain ⟨n, hn⟩ := hn
    have hp : (out.map backV).Perm xs := by rw [e1]; exact h2.perm.map backV
    refine ⟨.ref d, upd H d (.lst (out.map backV)), I.laid (t' := s.toks) kp hd ⟨?_, out, n, vals_back h3, hn⟩, rfl, q _ d hp ?_ (I.hok.fresh hd)⟩
    · rw [hp.length_eq]; exact hz
    · rw [List.map_map]
      exact srtd_pw h1
theorem cr_sortDT (hcalm : X.calm = true) (hu : X.A.units + 64 < cLine) : CallR X (.builtin "sorted") rSortDT := by
  intro pins s σ H xs us Q I r h
  obtain ⟨d, kvs, rfl, hd, hkeys, q⟩ := h
  obtain ⟨u, rfl, rx⟩ := r.one
  cases rx
  obtain ⟨z, hs, ks, pr, o, es, ep, ho, hx, hdt, he, hn⟩ := (show ObjOk X.prog X.w H s.heap d (.dT kvs) from hd.ok I.hok)
  have l1 : es.size = ks.length := size_of_entries he
  have l2 : kvs.length = ks.length := Paired.length pr
  refine Calls.call_function_entry PyProof.Rows.kind_sorted PyProof.Rows.plain_sorted PyProof.Rows.entry_sorted (PyProof.Rows.args_sorted1 _) ?_
  unfold Builtin.«sorted»
  refine wpAny_bind (m := checkCount "sorted" 1 1 _) (wpAny_pure ?_)
  refine wpAny_bind (PySem.W.kdu_collect (A := X.A.in1) (kdl_raw hs hx hdt) (I.ok.hd hcalm) ho (by omega) fun h' tk acc kp it => ?_)
  have ea : acc.toList = (ks.map fun x => x.2.1).map Value.ref := by
    have hl : acc.toList.length = ks.length := by rw [Array.length_toList, it.1]; exact l1
    apply List.ext_getElem?
    intro j
    rw [List.getElem?_map, List.getElem?_map]
    cases hj : acc.toList[j]? with
    | none =>
      have h1 := List.getElem?_eq_none_iff.mp hj
      rw [List.getElem?_eq_none (by omega)]
      all_goals rfl
    | some v =>
      obtain ⟨en, hen, hv⟩ := it.2 j v (by rw [← Array.getElem?_toList]; exact hj)
      have qe := entry_at he j
      rw [hen] at qe
      cases hb : ks[j]? with
      | none =>
        rw [hb] at qe
        exact nomatch (show some en = none from qe)
      | some b =>
        rw [hb] at qe
        have e2 : en = entryOfKey (tupleKind (mixKind X.prog X.w)) b := Option.some.inj qe
        rw [hv, e2]
        all_goals rfl
  have hK : IsKeys H kvs (ks.map fun x => x.2.1) := isKeys_of pr
  have hbl : (ks.map fun x => x.2.1).length = kvs.length := by rw [List.length_map, l2]
  generalize (ks.map fun x => x.2.1) = bs at *
  have I1 : Inv X pins σ H { s with heap := h', toks := tk } := I.kept kp
  have hal : acc.toList.length ≤ sizeLine := by rw [ea, List.length_map, hbl]; exact z
  refine wpAny_bind (wpAny_newList ?_ hal)
  have hoL : (h'.push (seqObj "list" acc.toList.toArray 0)).get? h'.objs.size = some (seqObj "list" acc.toList.toArray 0) := Heap.get?_push_size _ rfl
  have kk : ∀ b o, h'.get? b = some o → b ≠ h'.objs.size ∧ (h'.push (seqObj "list" acc.toList.toArray 0)).get? b = some o := fun b o e => ⟨Nat.ne_of_lt (Heap.lt_size e), Heap.get?_push_of_some _ e⟩
  show wpAny _ _ _ _ _ { s with heap := h'.push (seqObj "list" acc.toList.toArray 0), toks := tk }
  have hpath : ∀ b ∈ bs, ∃ ss : List Str, H b = some (.tup (ss.map V.str)) := fun b hb => by
    obtain ⟨j, hj⟩ := List.mem_iff_getElem?.mp hb
    obtain ⟨kv, h1, h2⟩ := isKeys_get hK hj
    obtain ⟨ss, e⟩ := hkeys kv (List.mem_of_getElem? h1)
    refine ⟨ss, ?_⟩
    rw [h2, e, List.map_map]
    rfl
  refine wpAny_bind (wpAny_holding (wpAny_call_entry PyProof.Rows.slot_list_sort ⟨_, hoL, rfl⟩ PyProof.Rows.entry_list_sort
    (list_sort_ord (s := { s with heap := h'.push (seqObj "list" acc.toList.toArray 0), toks := tk }) (swo_on fun u => keyH H (backV u)) hoL hal (fun h2 => paths_sortable (s := { s with heap := h'.push (seqObj "list" acc.toList.toArray 0), toks := tk }) h2 (by show X.A.units + 1 + 1 < cLine; omega) (fun v hv => ?_) fun o e => ?_) fun out h1 h2 => ⟨_, rfl, ?_⟩) (PyProof.Rows.args_list_sort _)))
  · rw [ea] at hv
    obtain ⟨b, hb, rfl⟩ := List.mem_map.mp hv
    obtain ⟨ss, ht⟩ := hpath b hb
    show IsPath _ (.ref b) (keyH H (V.ref b))
    rw [keyH_at ht]
    exact (path_at I1 ht).keeps fun c o e _ => (kk c o e).2
  · have e' : some o = some (seqObj "list" acc.toList.toArray 0) := e.symm.trans hoL
    cases e'
    intro c
    exact absurd (Value.type.inj c) (by decide)
  · obtain ⟨e', he'⟩ := PyProof.Rows.sortedHeap_at (vs := acc.toList) (out := out.toArray) hoL
    have hout : ∃ ys : List Addr, out = ys.map Value.ref := by
      have h3 : ∀ u ∈ out, ∃ a, u = Value.ref a := fun u hu => by
        have := h2.perm.mem_iff.mp hu
        rw [ea] at this
        obtain ⟨b, _, rfl⟩ := List.mem_map.mp this
        exact ⟨b, rfl⟩
      clear h1 h2 he'
      induction out with
      | nil => exact ⟨[], rfl⟩
      | cons u out ih =>
        obtain ⟨a, rfl⟩ := h3 u List.mem_cons_self
        obtain ⟨ys, rfl⟩ := ih fun v hv => h3 v (List.mem_cons_of_mem _ hv)
        exact ⟨a :: ys, rfl⟩
    obtain ⟨ys, rfl⟩ := hout
    have hperm : ys.Perm bs := by
      have := h2.perm
      rw [ea] at this
      have := this.map fun v : Value => match v with | .ref a => a | _ => 0
      rw [List.map_map, List.map_map] at this
      have e1 : ∀ l : List Addr, l.map ((fun v : Value => match v with | .ref a => a | _ => 0) ∘ Value.ref) = l := fun l => List.map_id _
      rw [e1, e1] at this
      exact this
    have hlen : (ys.map V.ref).length ≤ sizeLine := by rw [List.length_map, hperm.length_eq, hbl]; exact z
    refine wpAny_pure ⟨_, rfl, .ref h'.objs.size, upd H h'.objs.size (.lst (ys.map V.ref)), I1.laid (t' := tk) (fun b u e => ?_) (Nat.le_refl _)
      (show ObjOk X.prog X.w _ _ _ (.lst (ys.map V.ref)) from ⟨hlen, ys.map Value.ref, e', vals_refs ys, he'⟩), rfl, q bs ys _ hK hperm ?_ (I1.hok.fresh (Nat.le_refl _))⟩
    · have hb : b < h'.objs.size := Heap.lt_size e
      rw [PyProof.Rows.sortedHeap_old (Nat.ne_of_lt hb) (by rw [size_push']; exact Nat.lt_succ_of_lt hb)]
      exact Heap.get?_push_of_some _ e
    · have := srtd_pw h1
      rw [List.map_map] at this
      exact this
end
end SrtP
/-! ### Am: sorted() of all that is sorted here; list(d) -/
namespace Am
open PySem PySem.Spec PyProof.Rows L2
section
variable {α : Type} (lt : α → α → Bool)
def insG (x : α) : List α → List α
  | [] => [x]
  | y :: ys => if lt y x then y :: insG x ys else x :: y :: ys
def gsort : List α → List α
  | [] => []
  | x :: xs => insG lt x (gsort xs)
theorem insG_perm (x : α) : ∀ ys : List α, (insG lt x ys).Perm (x :: ys)
  | [] => .refl _
  | y :: ys => by
    unfold insG
    split
    · exact ((insG_perm x ys).cons y).trans (List.Perm.swap x y ys)
    · exact .refl _
theorem gsort_perm : ∀ xs : List α, (gsort lt xs).Perm xs
  | [] => .refl _
  | x :: xs => (insG_perm lt x _).trans ((gsort_perm xs).cons x)
theorem gsort_len (xs : List α) : (gsort lt xs).length = xs.length := (gsort_perm lt xs).length_eq
variable {lt} (as : ∀ x y, lt x y = true → lt y x = false) (tr : ∀ x y z, lt x y = true → lt y z = true → lt x z = true) (tot : ∀ x y, lt x y = false → lt y x = false → x = y)
include as tr tot
theorem ltG_le {x y z : α} (h1 : lt y x = false) (h2 : lt z y = false) : lt z x = false := by
  cases h : lt z x with
  | false => rfl
  | true =>
    cases q : lt x y with
    | true => rw [tr z x y h q] at h2; cases h2
    | false =>
      have e := tot x y q h1
      rw [e, h2] at h; cases h
theorem insG_ord (x : α) : ∀ ys : List α, ys.Pairwise (fun a b => lt b a = false) → (insG lt x ys).Pairwise (fun a b => lt b a = false)
  | [], _ => List.pairwise_singleton _ _
  | y :: ys, h => by
    obtain ⟨h1, h2⟩ := List.pairwise_cons.mp h
    unfold insG
    cases c : lt y x with
    | true =>
      rw [if_pos rfl]
      refine List.pairwise_cons.mpr ⟨fun z hz => ?_, insG_ord x ys h2⟩
      rcases List.mem_cons.mp ((insG_perm lt x ys).mem_iff.mp hz) with rfl | hz
      · exact as y z c
      · exact h1 z hz
    | false =>
      rw [if_neg (by decide)]
      refine List.pairwise_cons.mpr ⟨fun z hz => ?_, h⟩
      rcases List.mem_cons.mp hz with rfl | hz
      · exact c
      · exact ltG_le as tr tot c (h1 z hz)
theorem gsort_ord : ∀ xs : List α, (gsort lt xs).Pairwise (fun a b => lt b a = false)
  | [] => List.Pairwise.nil
  | x :: xs => insG_ord as tr tot x _ (gsort_ord xs)
theorem sortedG_eq : ∀ {xs ys : List α}, xs.Perm ys → xs.Pairwise (fun a b => lt b a = false) → ys.Pairwise (fun a b => lt b a = false) → xs = ys
  | [], ys, p, _, _ => (List.Perm.eq_nil p.symm).symm
  | x :: xs, [], p, _, _ => absurd p.length_eq (by simp)
  | x :: xs, y :: ys, p, h1, h2 => by
    obtain ⟨a1, a2⟩ := List.pairwise_cons.mp h1
    obtain ⟨b1, b2⟩ := List.pairwise_cons.mp h2
    have e : x = y := by
      rcases List.mem_cons.mp (p.mem_iff.mp List.mem_cons_self) with e | hx
      · exact e
      · rcases List.mem_cons.mp (p.mem_iff.mpr List.mem_cons_self) with e | hy
        · exact e.symm
        · exact tot x y (b1 x hx) (a1 y hy)
    subst e
    rw [sortedG_eq p.cons_inv a2 b2]
theorem gsort_uniq {xs ys : List α} (p : ys.Perm xs) (h : ys.Pairwise (fun a b => lt b a = false)) : ys = gsort lt xs := sortedG_eq as tr tot (p.trans (gsort_perm lt xs).symm) h (gsort_ord as tr tot xs)
end
abbrev Path := List Str
def psort : List Path → List Path := gsort SrtP.ltP
def ssort : List Str → List Str := gsort SrtP.ltS
theorem psort_uniq {xs ys : List Path} (p : ys.Perm xs) (h : ys.Pairwise (fun a b => SrtP.ltP b a = false)) : ys = psort xs := gsort_uniq SrtP.ltP_asym SrtP.ltP_trans SrtP.ltP_tot p h
theorem psort_perm (xs : List Path) : (psort xs).Perm xs := gsort_perm _ xs
theorem ssort_perm (xs : List Str) : (ssort xs).Perm xs := gsort_perm _ xs
theorem ssort_uniq {xs ys : List Str} (p : ys.Perm xs) (h : ys.Pairwise (fun a b => SrtP.ltS b a = false)) : ys = ssort xs := gsort_uniq (lt := SrtP.ltS) (fun _ _ => SrtP.ltS_asym) (fun _ _ _ => SrtP.ltS_trans) (fun _ _ => SrtP.ltS_tot) p h
theorem rising_pw : ∀ (p : Str) (xs : List Str), risingS p xs = true → (p :: xs).Pairwise (fun a b => SrtP.ltS b a = false)
  | p, [], _ => List.pairwise_singleton _ _
  | p, x :: r, h => by
    unfold risingS at h
    obtain ⟨h1, h2⟩ := Bool.and_eq_true_iff.mp h
    have ih := rising_pw x r h2
    have e : SrtP.ltS x p = false := by
      rw [ltCps_eq] at h1
      unfold SrtP.ltS
      simpa using h1
    refine List.pairwise_cons.mpr ⟨fun z hz => ?_, ih⟩
    rcases List.mem_cons.mp hz with rfl | hz
    · exact e
    · exact ltG_le (lt := SrtP.ltS) (fun _ _ => SrtP.ltS_asym) (fun _ _ _ => SrtP.ltS_trans) (fun _ _ => SrtP.ltS_tot) e ((List.pairwise_cons.mp ih).1 z hz)
theorem sortedS_pw : ∀ {xs : List Str}, sortedS xs = true → xs.Pairwise (fun a b => SrtP.ltS b a = false)
  | [], _ => List.Pairwise.nil
  | x :: r, h => rising_pw x r h
/-- a path as data -/
def pD (p : Path) : D := .tup (p.map .str)
def strD : D → Option Str
  | .str x => some x
  | _ => none
def strsD : List D → Option (List Str)
  | [] => some []
  | .str x :: r => (strsD r).map (x :: ·)
  | _ :: _ => none
theorem strsD_map : ∀ ss : List Str, strsD (ss.map D.str) = some ss
  | [] => rfl
  | s :: ss => by show (strsD (ss.map D.str)).map (s :: ·) = _; rw [strsD_map ss]; rfl
theorem strsD_eq : ∀ {ds : List D} {ss : List Str}, strsD ds = some ss → ds = ss.map D.str
  | [], _, h => by cases h; rfl
  | .str x :: r, ss, h => by
    unfold strsD at h
    obtain ⟨ms, h1, rfl⟩ := Option.map_eq_some_iff.mp h
    rw [strsD_eq h1]; rfl
/-- lists of paths -/
def pathsA : List A → Option (List Path)
  | [] => some []
  | .d (.tup ds) :: r => match strsD ds with
    | some ss => (pathsA r).map (ss :: ·)
    | none => none
  | _ :: _ => none
theorem pathsA_map : ∀ ps : List Path, pathsA ((ps.map pD).map A.d) = some ps
  | [] => rfl
  | p :: ps => by
    show (match strsD (p.map D.str) with | some ss => (pathsA ((ps.map pD).map A.d)).map (ss :: ·) | none => none) = _
    rw [strsD_map, pathsA_map ps]
    rfl
theorem pathsA_eq : ∀ {xs : List A} {ps : List Path}, pathsA xs = some ps → xs = (ps.map pD).map A.d
  | [], _, h => by cases h; rfl
  | .d (.tup ds) :: r, ps, h => by
    unfold pathsA at h
    split at h
    · rename_i ss e
      obtain ⟨qs, h1, rfl⟩ := Option.map_eq_some_iff.mp h
      rw [pathsA_eq h1, strsD_eq e]; rfl
    · cases h
def strsA : List A → Option (List Str)
  | [] => some []
  | .d (.str x) :: r => (strsA r).map (x :: ·)
  | _ :: _ => none
theorem strsA_map : ∀ ss : List Str, strsA ((ss.map D.str).map A.d) = some ss
  | [] => rfl
  | s :: ss => by show (strsA ((ss.map D.str).map A.d)).map (s :: ·) = _; rw [strsA_map ss]; rfl
theorem strsA_eq : ∀ {xs : List A} {ss : List Str}, strsA xs = some ss → xs = (ss.map D.str).map A.d
  | [], _, h => by cases h; rfl
  | .d (.str x) :: r, ss, h => by
    unfold strsA at h
    obtain ⟨ms, h1, rfl⟩ := Option.map_eq_some_iff.mp h
    rw [strsA_eq h1]; rfl
def strsK {α : Type} : List (Key × α) → Option (List Str)
  | [] => some []
  | (.inr x, _) :: r => (strsK r).map (x :: ·)
  | _ :: _ => none
theorem strsK_map {α β : Type} (f : α → Str) (g : α → β) : ∀ xs : List α, strsK (xs.map fun x => ((.inr (f x) : Key), g x)) = some (xs.map f)
  | [] => rfl
  | x :: xs => by show (strsK (xs.map fun x => ((.inr (f x) : Key), g x))).map (f x :: ·) = _; rw [strsK_map f g xs]; rfl
theorem strsK_keys {α : Type} : ∀ {xs : List (Key × α)} {ss : List Str}, strsK xs = some ss → xs.map (·.1) = ss.map Sum.inr
  | [], _, h => by cases h; rfl
  | (.inr x, _) :: r, ss, h => by
    unfold strsK at h
    obtain ⟨ms, h1, rfl⟩ := Option.map_eq_some_iff.mp h
    rw [List.map_cons, List.map_cons, strsK_keys h1]
  | (.inl _, _) :: _, _, h => by cases h
def keyS : List Key → Option (List Str)
  | [] => some []
  | .inr x :: r => (keyS r).map (x :: ·)
  | .inl _ :: _ => none
theorem keyS_map : ∀ ss : List Str, keyS (ss.map Sum.inr) = some ss
  | [] => rfl
  | s :: ss => by show (keyS (ss.map Sum.inr)).map (s :: ·) = _; rw [keyS_map ss]; rfl
theorem keyS_eq : ∀ {ks : List Key} {ss : List Str}, keyS ks = some ss → ks = ss.map Sum.inr
  | [], _, h => by cases h; rfl
  | .inr x :: r, ss, h => by
    unfold keyS at h
    obtain ⟨ms, h1, rfl⟩ := Option.map_eq_some_iff.mp h
    rw [keyS_eq h1]; rfl
  | .inl _ :: _, _, h => by cases h
def pathsK {α : Type} : List (List Key × α) → Option (List Path)
  | [] => some []
  | (ks, _) :: r => match keyS ks with
    | some ss => (pathsK r).map (ss :: ·)
    | none => none
theorem pathsK_map {α β : Type} (f : α → Path) (g : α → β) : ∀ xs : List α, pathsK (xs.map fun x => ((f x).map (Sum.inr : Str → Key), g x)) = some (xs.map f)
  | [] => rfl
  | x :: xs => by
    show (match keyS ((f x).map (Sum.inr : Str → Key)) with | some ss => (pathsK (xs.map fun x => ((f x).map (Sum.inr : Str → Key), g x))).map (ss :: ·) | none => none) = _
    rw [keyS_map, pathsK_map f g xs]
    rfl
theorem pathsK_keys {α : Type} : ∀ {xs : List (List Key × α)} {ps : List Path}, pathsK xs = some ps → xs.map (·.1) = ps.map (fun p => p.map Sum.inr)
  | [], _, h => by cases h; rfl
  | (ks, _) :: r, ps, h => by
    unfold pathsK at h
    split at h
    · rename_i ss e
      obtain ⟨qs, h1, rfl⟩ := Option.map_eq_some_iff.mp h
      rw [List.map_cons, List.map_cons, pathsK_keys h1, keyS_eq e]
    · cases h
/-- sorted(x) -/
noncomputable def gSortA (k : Bool) : GC
  | [a], st => match viewS st a with
    | some xs => match intsA xs with
      | some ns => mkL k (((isort ns).map D.int).map A.d) st
      | none => match pathsA xs with
        | some ps => mkL k (((psort ps).map pD).map A.d) st
        | none => match strsA xs with
          | some ss => ifc (ss.length < 64) (mkL k (((ssort ss).map D.str).map A.d) st) .no
          | none => .no
    | none => match viewK st a with
      | some kvs => match intsK kvs with
        | some ns => ifc (ns.length < 64) (mkL k (((isort ns).map D.int).map A.d) st) .no
        | none => match strsK kvs with
          | some ss => ifc (ss.length < 64) (mkL k (((ssort ss).map D.str).map A.d) st) .no
          | none => .no
      | none => match viewDT st a with
        | some kvs => match pathsK kvs with
          | some ps => mkL k (((psort ps).map pD).map A.d) st
          | none => .no
        | none => .no
  | _, _ => .no
/-- list(x) -/
noncomputable def gListA (k : Bool) : GC
  | [a], st => match viewK st a with
    | some kvs => mkL k ((kvs.map fun p => kD p.1).map A.d) st
    | none => match viewDT st a with
      | some kvs => mkL k ((kvs.map fun p => D.tup (p.1.map kD)).map A.d) st
      | none => gListOf k [a] st
  | _, _ => .no
section
variable {c : Ctx} {w : Wd} {n : Nat} {σa : Slots} {st : Store} {σ : L2.St} {H : Hp} {W : WX}
/-- data that stands in the heap is taken in -/
theorem RelS.adopt (r : RelS c w st H) {b : Addr} {us : List V} (h : H b = some (.tup us)) : ∃ w', Ext w st.length w' st.length ∧ RelS c w' st H ∧ w'.G b = some (.tup us) ∧ w'.E = w.E := by
  cases hg : w.G b with
  | some o =>
    have := r.same _ _ hg
    rw [h] at this
    cases this
    exact ⟨w, Ext.refl _ _, r, hg, rfl⟩
  | none =>
    refine ⟨⟨upd w.G b (.tup us), w.E⟩, ⟨same_upd hg, fun _ _ => rfl, Nat.le_refl _⟩, ⟨fun a o e => ?_, r.inj, fun i x hx => ?_⟩, upd_same, rfl⟩
    · by_cases e2 : a = b
      · subst e2
        have e : upd w.G a (.tup us) a = some o := e
        rw [upd_same] at e; cases e; exact h
      · have e : upd w.G b (.tup us) a = some o := e
        rw [upd_ne e2] at e; exact r.same _ _ e
    · have cr := r.cell i x hx
      have ex : Ext w st.length ⟨upd w.G b (.tup us), w.E⟩ st.length := ⟨same_upd hg, fun _ _ => rfl, Nat.le_refl _⟩
      have hne : ∀ o, H (w.E i) = some o → (∀ us, o ≠ .tup us) → w.E i ≠ b := fun o ho hn z => by rw [z, h] at ho; cases ho; exact hn _ rfl
      cases x with
      | lst xs =>
        obtain ⟨g, vs, e, p⟩ := cr
        exact ⟨by show upd w.G b (.tup us) (w.E i) = none; rw [upd_ne (hne _ e fun _ z => nomatch z)]; exact g, vs, e, ras_ext ex p⟩
      | dK xs =>
        obtain ⟨g, vs, e, p⟩ := cr
        exact ⟨by show upd w.G b (.tup us) (w.E i) = none; rw [upd_ne (hne _ e fun _ z => nomatch z)]; exact g, vs, e, kas_ext ex p⟩
      | dT xs =>
        obtain ⟨g, vs, e, p⟩ := cr
        exact ⟨by show upd w.G b (.tup us) (w.E i) = none; rw [upd_ne (hne _ e fun _ z => nomatch z)]; exact g, vs, e, kas_ext ex p⟩
      | ins q fs =>
        obtain ⟨g, C, dx, vs, e, m, p⟩ := cr
        exact ⟨by show upd w.G b (.tup us) (w.E i) = none; rw [upd_ne (hne _ e fun _ z => nomatch z)]; exact g, C, dx, vs, e, m, kas_ext ex p⟩
      | fz q =>
        obtain ⟨g, t⟩ := cr
        exact ⟨DR.same ex.same g, t⟩
theorem RelS.adopts (r : RelS c w st H) : ∀ {bs : List Addr}, (∀ b ∈ bs, ∃ us, H b = some (.tup us)) → ∃ w', Ext w st.length w' st.length ∧ RelS c w' st H ∧ (∀ b ∈ bs, w'.G b = H b) ∧ w'.E = w.E
  | [], _ => ⟨w, Ext.refl _ _, r, (fun _ h => nomatch h), rfl⟩
  | b :: bs, h => by
    obtain ⟨w1, e1, r1, g1, E1⟩ := RelS.adopts r (bs := bs) fun x hx => h x (List.mem_cons_of_mem _ hx)
    obtain ⟨us, hb⟩ := h b List.mem_cons_self
    obtain ⟨w2, e2, r2, g2, E2⟩ := r1.adopt hb
    refine ⟨w2, e1.trans e2, r2, fun x hx => ?_, E2.trans E1⟩
    rcases List.mem_cons.mp hx with rfl | hx
    · rw [g2, hb]
    · have q := g1 x hx
      obtain ⟨vs, hv⟩ := h x (List.mem_cons_of_mem _ hx)
      rw [hv] at q ⊢
      exact e2.same _ _ q
theorem strs_dr {G : Hp} : ∀ ss : List Str, DRs c G (ss.map D.str) (ss.map V.str)
  | [] => rfl
  | s :: ss => ⟨_, _, rfl, rfl, strs_dr ss⟩
theorem keys_dr {G : Hp} : ∀ ks : List Key, DRs c G (ks.map kD) (ks.map kV)
  | [] => rfl
  | .inl i :: ks => ⟨_, _, rfl, rfl, keys_dr ks⟩
  | .inr i :: ks => ⟨_, _, rfl, rfl, keys_dr ks⟩
theorem strs_of_dr {G : Hp} : ∀ {ss : List Str} {vs : List V}, DRs c G (ss.map D.str) vs → vs = ss.map V.str
  | [], _, h => h
  | s :: ss, _, ⟨v, r, e, h1, h2⟩ => by rw [e, strs_of_dr h2, show v = V.str s from h1]; rfl
theorem paths_ras {ps : List Path} {bs : List Addr} (h : Paired (fun b (p : Path) => w.G b = some (.tup (p.map V.str))) bs ps) : Paired (RA c w n) (bs.map V.ref) ((ps.map pD).map A.d) := by
  induction h with
  | nil => exact .nil
  | cons r _ ih => exact .cons ⟨_, _, rfl, r, strs_dr _⟩ ih
theorem strs_ras (ss : List Str) : Paired (RA c w n) (ss.map V.str) ((ss.map D.str).map A.d) := by
  induction ss with
  | nil => exact .nil
  | cons i ns ih => exact .cons rfl ih
theorem strs_ok {vs : List V} {ss : List Str} (h : Paired (RA c w n) vs ((ss.map D.str).map A.d)) : vs = ss.map V.str := strs_of_dr (ras_of_d h)
/-! the rules -/
def rSortIK : List V → Hp → VK → Prop := fun xs H Q => ∃ (a : Addr) (kvs : List (Key × V)) (ks : List Str), xs = [.ref a] ∧ Rd H a (.dK kvs) ∧ kvs.map (·.1) = ks.map Sum.inr ∧ ks.length < 64 ∧
    ∀ ys p, ys.Perm ks → sortedS ys = true → H p = none → Q (.ref p) (upd H p (.lst (ys.map V.str)))
def rSortAll (K : PySem.W.Frag) : List V → Hp → VK → Prop := fun xs H Q => rSortedI K xs H Q ∨ (rSortDI xs H Q ∨ (rSortedS K xs H Q ∨ (rSortIK xs H Q ∨ (SrtP.rSortPth K xs H Q ∨ SrtP.rSortDT xs H Q))))
theorem paths_pair {ps : List Path} : ∀ {vs : List V}, Paired (RA c w n) vs ((ps.map pD).map A.d) → Paired (fun v (p : Path) => ∃ t, v = V.ref t ∧ w.G t = some (.tup (p.map V.str))) vs ps := by
  induction ps with
  | nil => intro vs h; cases h; exact .nil
  | cons p ps ih =>
    intro vs h
    cases h with
    | cons r h =>
      obtain ⟨a, us, e, g, d⟩ := r
      exact .cons ⟨a, e, by rw [g, strs_of_dr d]⟩ (ih h)
theorem paths_key {ps : List Path} {vs : List V} (sm : Same w.G H) (h : Paired (fun v (p : Path) => ∃ t, v = V.ref t ∧ w.G t = some (.tup (p.map V.str))) vs ps) : vs.map (SrtP.keyH H) = ps := by
  induction h with
  | nil => rfl
  | cons r _ ih =>
    obtain ⟨t, rfl, g⟩ := r
    rw [List.map_cons, ih, SrtP.keyH_at (sm _ _ g)]
/-- paths in another order -/
theorem paths_order {vs ys : List V} (h : ∀ v ∈ vs, ∃ (t : Addr) (p : Path), v = V.ref t ∧ w.G t = some (.tup (p.map V.str)) ∧ SrtP.keyH H v = p) (hp : ∀ y ∈ ys, y ∈ vs) : Paired (RA c w n) ys (((ys.map (SrtP.keyH H)).map pD).map A.d) := by
  induction ys with
  | nil => exact .nil
  | cons y ys ih =>
    obtain ⟨t, p, e, g, k⟩ := h y (hp y List.mem_cons_self)
    refine .cons ?_ (ih fun z hz => hp z (List.mem_cons_of_mem _ hz))
    rw [k, e]
    exact ⟨t, _, rfl, g, strs_dr p⟩
theorem isKeys_paths {us : List (List Key × V)} {bs : List Addr} (hk : IsKeys H us bs) : ∀ {ps : List Path}, us.map (·.1) = ps.map (fun p => p.map Sum.inr) → Paired (fun b (p : Path) => H b = some (.tup (p.map V.str))) bs ps := by
  unfold IsKeys at hk
  induction hk with
  | nil => intro ps e; cases ps with
    | nil => exact .nil
    | cons _ _ => cases e
  | cons r _ ih =>
    intro ps e
    cases ps with
    | nil => cases e
    | cons p ps =>
      rw [List.map_cons, List.map_cons] at e
      obtain ⟨e1, e2⟩ := List.cons.inj e
      refine .cons ?_ (ih e2)
      rw [r, e1, List.map_map]
      rfl
theorem paths_keyB {ps : List Path} {bs : List Addr} (h : Paired (fun b (p : Path) => H b = some (.tup (p.map V.str))) bs ps) : bs.map (fun b => SrtP.keyH H (.ref b)) = ps := by
  induction h with
  | nil => rfl
  | cons r _ ih => rw [List.map_cons, ih, SrtP.keyH_at r]
theorem Post.put {w' : Wd} {Q : V → Hp → Prop} {k : Bool} {xs : List A} {vs : List V} (rl : Rel c w σa st σ H) (e : Ext w st.length w' st.length) (rs : RelS c w' st H) (r : Paired (RA c w' st.length) vs xs) (p : Post c w st.length σa σ (RA c) W Q (mkL k xs st)) {q : Addr} (hq : H q = none) : Q (.ref q) (upd H q (.lst vs)) :=
  (mkL_ok (rl.of e rs) r (p.mono e)).2 q hq
theorem gSortA_ok (k : Bool) : CallA c (rSortAll c.K) (gSortA k) := by
  intro w σa st σ H xs vs W Q rl rxs p
  unfold gSortA at p
  split at p
  · obtain ⟨v, rfl, rx⟩ := pr1 rxs
    split at p
    · rename_i zs hv
      obtain ⟨a, us, rfl, q, pr⟩ := viewS_ok rl.rs rx hv
      split at p
      · rename_i ns hn
        have := intsA_ok pr hn
        subst this
        refine .inl ⟨a, ns, rfl, q, fun ns' pp hp ho hf => ?_⟩
        rw [isort_uniq hp ho]
        exact (mkL_ok rl (ras_ints _) p).2 pp hf
      · split at p
        · rename_i ps hps
          have e := pathsA_eq hps
          subst e
          have pp := paths_pair pr
          have hk := paths_key rl.rs.same pp
          have hit : ∀ v ∈ us, ∃ (t : Addr) (p : Path), v = V.ref t ∧ w.G t = some (.tup (p.map V.str)) ∧ SrtP.keyH H v = p := fun v hv => by
            obtain ⟨j, hj⟩ := List.mem_iff_getElem?.mp hv
            obtain ⟨p, hp, t, e, g⟩ := paired_getL pp hj
            refine ⟨t, p, e, g, ?_⟩
            rw [e, SrtP.keyH_at (rl.rs.same _ _ g)]
          refine .inr (.inr (.inr (.inr (.inl ⟨a, us, rfl, q, fun v hv => ?_, fun ys l hp ho hl => ?_⟩))))
          · obtain ⟨t, p, e, g, _⟩ := hit v hv
            exact ⟨t, p, e, rl.rs.same _ _ g⟩
          · have e : ys.map (SrtP.keyH H) = psort ps := psort_uniq (by rw [← hk]; exact hp.map _) ho
            rw [← e] at p
            exact (mkL_ok rl (paths_order (fun v hv => hit v hv) fun y hy => hp.mem_iff.mp hy) p).2 l hl
        · split at p
          · rename_i ss hss
            have e := strsA_eq hss
            subst e
            have := strs_ok pr
            subst this
            unfold ifc at p
            split at p
            · rename_i h64
              refine .inr (.inr (.inl ⟨a, ss, rfl, q, h64, fun ys l hp ho hl => ?_⟩))
              rw [ssort_uniq hp (sortedS_pw ho)]
              exact (mkL_ok rl (strs_ras _) p).2 l hl
            · exact p.elim
          · exact p.elim
    · split at p
      · rename_i zs hv
        obtain ⟨a, us, rfl, q, pr⟩ := viewK_ok rl.rs rx hv
        split at p
        · rename_i ns hn
          unfold ifc at p
          split at p
          · rename_i h64
            refine .inr (.inl ⟨a, us, ns, rfl, q, (kd_keys pr).trans (intsK_keys hn), h64, fun ns' pp hp ho hf => ?_⟩)
            rw [isort_uniq hp ho]
            exact (mkL_ok rl (ras_ints _) p).2 pp hf
          · exact p.elim
        · split at p
          · rename_i ss hss
            unfold ifc at p
            split at p
            · rename_i h64
              refine .inr (.inr (.inr (.inl ⟨a, us, ss, rfl, q, (kd_keys pr).trans (strsK_keys hss), h64, fun ys l hp ho hl => ?_⟩)))
              rw [ssort_uniq hp (sortedS_pw ho)]
              exact (mkL_ok rl (strs_ras _) p).2 l hl
            · exact p.elim
          · exact p.elim
      · split at p
        · rename_i zs hv
          obtain ⟨a, us, rfl, q, pr⟩ := viewDT_ok rl.rs rx hv
          split at p
          · rename_i ps hps
            have e1 := pathsK_keys hps
            have e2 : us.map (·.1) = ps.map (fun p => p.map Sum.inr) := (kd_keys pr).trans e1
            refine .inr (.inr (.inr (.inr (.inr ⟨a, us, rfl, q, fun kv hkv => ?_, fun bs ys l hk hp ho hl => ?_⟩))))
            · have : kv.1 ∈ us.map (·.1) := List.mem_map.mpr ⟨kv, hkv, rfl⟩
              rw [e2] at this
              obtain ⟨p, hp, e⟩ := List.mem_map.mp this
              exact ⟨p, e.symm⟩
            · have pp := isKeys_paths hk e2
              have hkey := paths_keyB pp
              have hit : ∀ b ∈ ys, ∃ p : Path, H b = some (.tup (p.map V.str)) := fun b hb => by
                obtain ⟨j, hj⟩ := List.mem_iff_getElem?.mp (hp.mem_iff.mp hb)
                obtain ⟨p, _, g⟩ := paired_getL pp hj
                exact ⟨p, g⟩
              obtain ⟨w', ex, rs', hG, _⟩ := rl.rs.adopts (bs := ys) fun b hb => let ⟨p, g⟩ := hit b hb; ⟨_, g⟩
              have e : ys.map (fun b => SrtP.keyH H (.ref b)) = psort ps := psort_uniq (by rw [← hkey]; exact hp.map _) ho
              rw [← e] at p
              refine Post.put rl ex rs' ?_ p hl
              refine paths_ras ?_
              clear e ho hp hkey p
              induction ys with
              | nil => exact .nil
              | cons y ys ih =>
                obtain ⟨p, g⟩ := hit y List.mem_cons_self
                refine .cons ?_ (ih (fun b hb => hit b (List.mem_cons_of_mem _ hb)) fun b hb => hG b (List.mem_cons_of_mem _ hb))
                rw [hG y List.mem_cons_self]
                show H y = some (.tup ((SrtP.keyH H (.ref y)).map V.str))
                rw [SrtP.keyH_at g, g]
          · exact p.elim
        · exact p.elim
  · exact p.elim
def rListDT : List V → Hp → VK → Prop := fun xs H Q => ∃ d kvs, xs = [V.ref d] ∧ Rd H d (.dT kvs) ∧ ∀ p bs, H p = none → IsKeys H kvs bs → Q (.ref p) (upd H p (.lst (bs.map V.ref)))
def rListAll (K : PySem.W.Frag) : List V → Hp → VK → Prop := fun xs H Q => (∃ p ys, xs = [.ref p] ∧ (SqL K H p ys ∨ SqT K H p ys) ∧ ∀ l, H l = none → Q (.ref l) (upd H l (.lst ys))) ∨ (rListD xs H Q ∨ rListDT xs H Q)
theorem gListA_ok (k : Bool) : CallA c (rListAll c.K) (gListA k) := by
  intro w σa st σ H xs vs W Q rl rxs p
  unfold gListA at p
  split at p
  · obtain ⟨v, e, rx⟩ := pr1 rxs
    split at p
    · rename_i hv
      subst e
      obtain ⟨a, us, rfl, q, pr⟩ := viewK_ok rl.rs rx hv
      refine .inr (.inl ⟨a, us, rfl, q, fun l hl => ?_⟩)
      have e : us.map (fun kv => kV kv.1) = (us.map (·.1)).map kV := by rw [List.map_map]; rfl
      have e2 : ∀ (kvs : List (Key × A)), (kvs.map fun p => kD p.1) = (kvs.map (·.1)).map kD := fun kvs => by rw [List.map_map]; rfl
      rw [e2] at p
      rw [e, kd_keys pr]
      exact (mkL_ok rl (ras_keys _) p).2 l hl
    · split at p
      · rename_i hv
        subst e
        obtain ⟨a, us, rfl, q, pr⟩ := viewDT_ok rl.rs rx hv
        refine .inr (.inr ⟨a, us, rfl, q, fun l bs hl hk => ?_⟩)
        have hit : ∀ b ∈ bs, ∃ ks : List V, H b = some (.tup ks) := fun b hb => by
          obtain ⟨j, hj⟩ := List.mem_iff_getElem?.mp hb
          obtain ⟨kv, _, g⟩ := SrtP.isKeys_get hk hj
          exact ⟨_, g⟩
        obtain ⟨w', ex, rs', hG, _⟩ := rl.rs.adopts (bs := bs) hit
        refine Post.put rl ex rs' ?_ p hl
        have kk := kd_keys pr
        have e2 : ∀ (kvs : List (List Key × A)), (kvs.map fun p => D.tup (p.1.map kD)) = (kvs.map (·.1)).map fun ks => D.tup (ks.map kD) := fun kvs => by rw [List.map_map]; rfl
        rw [e2, ← kk]
        clear kk e2 p pr q hv rx rxs
        unfold IsKeys at hk
        induction hk with
        | nil => exact .nil
        | cons r _ ih =>
          refine .cons ⟨_, _, rfl, (hG _ List.mem_cons_self).trans r, keys_dr _⟩ (ih (fun b hb => hit b (List.mem_cons_of_mem _ hb)) fun b hb => hG b (List.mem_cons_of_mem _ hb))
      · exact .inl (gListOf_ok k _ _ _ _ _ _ _ _ _ rl rxs p)
  · exact p.elim
variable {X : Cx} {e : Expr} {fs : MA} {p pos : Pos}
theorem e_sortA {lv : Nat} (k : Bool) (hr : Room lv X.A) (hcalm : X.calm = true) (ha : PA X (e :: []) (tMA c W fs)) (hm : c.mg "sorted" = none) (hgl : Gl X "sorted" := by rfl) (F : Fits X c := by exact ⟨rfl, rfl⟩) (he : starEach (e :: []) X.env = (false, eval e X.env) :: starEach [] X.env := by rfl) (hpl : (backTo pos (starEach [] X.env)).any (·.1) = false := by rfl) : PE X (.Call (.Name "sorted" p) [e] [] pos) (tM c W (mCallB (gSortA k) fs)) := by
  refine e_callB (id := "sorted") (r := rSortAll c.K) ?_ (gSortA_ok k) hgl hm (by decide +kernel) ha F (by decide) (by decide) he hpl
  rw [← F.K]
  exact CallR.or cr_sortedI (CallR.or (call_sortedDI hcalm) (CallR.or cr_sortedS (CallR.or (call_sortedD hcalm) (CallR.or (SrtP.cr_sortPth hr.units) (SrtP.cr_sortDT hcalm hr.units)))))
theorem e_listA (k : Bool) (hcalm : X.calm = true) (ha : PA X (e :: []) (tMA c W fs)) (hm : c.mg "list" = none) (hgl : Gl X "list" := by rfl) (F : Fits X c := by exact ⟨rfl, rfl⟩) (he : starEach (e :: []) X.env = (false, eval e X.env) :: starEach [] X.env := by rfl) (hpl : (backTo pos (starEach [] X.env)).any (·.1) = false := by rfl) : PE X (.Call (.Name "list" p) [e] [] pos) (tM c W (mCallB (gListA k) fs)) := by
  refine e_callTy (T := "list") (r := rListAll c.K) ?_ (gListA_ok k) hgl hm (by decide +kernel) ha F (by decide) (by decide) he hpl
  rw [← F.K]
  exact CallR.or call_list_of (CallR.or (call_listD hcalm) (call_list_dT hcalm))
end
end Am
/-! ### Am: texts sign by sign, index of texts and of a module's tuple, isinstance by an own class -/
namespace Am
open PySem PySem.Spec PyProof.Rows L2
/-- the signs of a text -/
def chS (x : Str) : List Str := x.cps.toList.map fun c => ⟨#[c]⟩
def iStrM (f : ME) : MI := fun σ st => (f σ st).bind fun x st1 => match x with
  | .d (.str s) => .ok ⟨((chS s).map D.str).map A.d, fun _ => True⟩ st1
  | _ => .no
def gSIndex : GM := fun x ys st => match x, ys with
  | .d (.str a), [.d (.str b)] => match Builtin.Str.occurrences a b 0 a.length 1 with
    | i :: _ => .ok (.d (.int (i : Nat))) st
    | [] => .no
  | _, _ => .no
def mMethS (g : GM) (f : ME) (fs : MA) : ME := fun σ st => (f σ st).bind fun x st1 => match x with
  | .d (.str _) => (fs σ st1).bind fun xs st2 => g x xs st2
  | _ => .no
def mKIdx (ss : List Str) (fs : MA) : ME := fun σ st => (fs σ st).bind fun ys st1 => match ys with
  | [.d (.str z)] => match ss.findIdx? (fun s => s == z) with
    | some j => .ok (.d (.int (j : Nat))) st1
    | none => .no
  | _ => .no
def gIsC (x : Str) : A → Store → Res A := fun a st => match viewI st a with
  | some (y, _) => if y = x then .ok (.d (.bl true)) st else .no
  | none => .no
def GlobI (K : PySem.W.Frag) (mg : Str → Option Value) (x : Str) (ss : List Str) : Prop := ∃ (a : Addr) (o : Obj) (its : Array Value) (n : Nat), mg x = some (.ref a) ∧ K.lookup a = some o ∧ o.cls = .type "tuple" ∧ o.dict = none ∧ o.data = .seq its n ∧ its.size ≤ sizeLine ∧ Vals (ss.map V.str) its.toList
def InsT (K : PySem.W.Frag) (mg : Str → Option Value) (x : Str) : Prop := ∃ C, mg x = some (.ref C) ∧ C8.InsC K C
section
variable {X : Cx} {c : Ctx} {W : WX} {e o tg : Expr} {es : List Expr} {f : ME} {fs : MA} {p pos apos cpos : Pos}
theorem i_str (h : PE X e (tM c W f)) : PI X tg e (tMI c W (iStrM f)) := pi_imp (pi_str h) fun σ H R ⟨w, σa, st, rl, q⟩ => ⟨w, σa, st, rl, q.bind fun v x st1 w1 H1 _ rl1 rx p1 => by
  split at p1
  · rename_i s
    refine ⟨s, rx, p1.here rl1 fun w2 st2 H2 e2 rs2 ok => ⟨?_, fun i y hy => ?_⟩⟩
    · show s.cps.size ≤ (((chS s).map D.str).map A.d).length
      unfold chS
      rw [List.length_map, List.length_map, List.length_map, Array.length_toList]
      exact Nat.le_refl _
    · rw [List.getElem?_map, List.getElem?_map] at hy
      obtain ⟨d, hd, rfl⟩ := Option.map_eq_some_iff.mp hy
      obtain ⟨z, hz, rfl⟩ := Option.map_eq_some_iff.mp hd
      unfold chS at hz
      rw [List.getElem?_map] at hz
      obtain ⟨cc, hc, rfl⟩ := Option.map_eq_some_iff.mp hz
      rw [Array.getElem?_toList] at hc
      have hl : i < s.cps.size := (Array.getElem?_eq_some_iff.mp hc).1
      refine ⟨hl, fun v H3 ⟨e3, c', hc', ev⟩ σa2 σ2 rl2 => ⟨w2, Ext.refl _ _, by rw [e3]; exact rl2, ?_⟩⟩
      rw [hc] at hc'
      cases hc'
      exact ev
  · exact p1.elim⟩
theorem gSIndex_ok : MtA c (fun x xs H Q => ∃ a b i rest, x = .str a ∧ xs = [.str b] ∧ Builtin.Str.occurrences a b 0 a.length 1 = i :: rest ∧ Q (.int (i : Nat)) H) gSIndex := by
  intro w σa st σ H x v xs vs W Q rl rx rxs p
  unfold gSIndex at p
  split at p
  · rename_i a b
    obtain ⟨u, rfl, ru⟩ := pr1 rxs
    split at p
    · rename_i i rest ho
      exact ⟨a, b, i, rest, rx, by rw [show u = V.str b from ru], ho, p.here rl rfl⟩
    · exact p.elim
  · exact p.elim
theorem e_methS {id : String} {name : Str} {r : V → List V → Hp → VK → Prop} {g : GM} (slot : Slot "str" name id) (hty : typeOf (.builtin id) = pure (.type "method_descriptor")) (hm : MtR X id r) (hg : MtA c r g) (ho : PE X o (tM c W f)) (ha : PA X (e :: es) (tMA c W fs)) (F : Fits X c)
    (hbase : attributeBase o name X.env (eval o X.env) = eval o X.env := by rfl)
    (hfew : ((backTo cpos (starEach (e :: es) X.env)).all (fun x => !x.1) && (backToKw cpos (keywordEach [] X.env)).all (fun x => x.1.isSome)
      && decide ((e :: es).length + ([] : List Keyword).length + (if ([] : List Keyword).isEmpty then 0 else 1) < 30)) = true := by rfl)
    (hline : (apos.endLine == cpos.line) = true := by rfl) (hs : starEach (e :: es) X.env = (false, eval e X.env) :: starEach es X.env := by rfl) (hplain : (backTo cpos (starEach es X.env)).any (·.1) = false := by rfl) :
    PE X (.Call (.Attribute o name apos) (e :: es) [] cpos) (tM c W (mMethS g f fs)) :=
  pe_imp (pe_bm PySem.F.plainAttrs_str slot hty hm ho ha hbase hfew hline hs hplain) fun σ H Q ⟨w, σa, st, rl, q⟩ =>
    ⟨w, σa, st, rl, q.bind fun v x st1 w1 H1 _ rl1 rx p1 => by
      split at p1
      · rename_i s
        refine ⟨by rw [show v = V.str s from rx]; rfl, ⟨w1, σa, st1, rl1, p1.bind fun vs xs st2 w2 H2 e2 rl2 rxs p2 => hg w2 σa st2 σ H2 _ v xs vs W Q rl2 (rx.ext e2) rxs p2⟩⟩
      · exact p1.elim⟩
theorem e_kidx {x : Str} {ss : List Str} (h : GlobI X.K X.mg x ss) (ha : PA X (e :: []) (tMA c W fs)) (hgl : Gl X x := by rfl) (nd : (x == ("__debug__" : Str)) = false := by decide)
    (hbase : attributeBase (.Name x p) "index" X.env (eval (.Name x p) X.env) = eval (.Name x p) X.env := by rfl)
    (hfew : ((backTo cpos (starEach (e :: []) X.env)).all (fun x => !x.1) && (backToKw cpos (keywordEach [] X.env)).all (fun x => x.1.isSome)
      && decide ((e :: []).length + ([] : List Keyword).length + (if ([] : List Keyword).isEmpty then 0 else 1) < 30)) = true := by rfl)
    (hline : (apos.endLine == cpos.line) = true := by rfl) (hs : starEach (e :: []) X.env = (false, eval e X.env) :: starEach [] X.env := by rfl) (hplain : (backTo cpos (starEach [] X.env)).any (·.1) = false := by rfl) :
    PE X (.Call (.Attribute (.Name x p) "index" apos) (e :: []) [] cpos) (tM c W (mKIdx ss fs)) := by
  obtain ⟨a, ob, its, n, hm, hk, hc, hdn, hd, hz, hv⟩ := h
  have q : PE X (.Name x p) (tC (.ref a)) := Rw.pe_globE hgl ⟨_, hm, rfl⟩ nd
  refine pe_imp (pe_bm PySem.F.plainAttrs_tuple PySem.F.slot_tuple_index PySem.F.type_tuple_index mt_tup_index q ha hbase hfew hline hs hplain) fun σ H Q ⟨w, σa, st, rl, r⟩ =>
    ⟨.inr (.inl ⟨rfl, ob, hk, hc, hdn⟩), ⟨w, σa, st, rl, r.bind fun vs xs st1 w1 H1 _ rl1 rx p1 => ?_⟩⟩
  split at p1
  · rename_i z
    obtain ⟨u, rfl, ru⟩ := pr1 rx
    split at p1
    · rename_i j hj
      obtain ⟨hl, h1, h2⟩ := List.findIdx?_eq_some_iff_getElem.mp hj
      refine ⟨a, ss, z, j, rfl, by rw [show u = V.str z from ru], .inr ⟨ob, its, n, hk, hc, hd, hz, hv⟩, ?_, fun m hm e => ?_, p1.here rl1 rfl⟩
      · rw [List.getElem?_eq_getElem hl]
        exact congrArg some (by simpa using h1)
      · have := h2 m hm
        rw [List.getElem?_eq_getElem (Nat.lt_trans hm hl)] at e
        have e := Option.some.inj e
        rw [e] at this
        simp at this
    · exact p1.elim
  · exact p1.elim
theorem e_isC {x : Str} {p2 : Pos} (T : InsT X.K X.mg x) (h : PE X e (tM c W f)) (hm : c.mg "isinstance" = none) (F : Fits X c := by exact ⟨rfl, rfl⟩) (hgl : Gl X "isinstance" := by rfl) (hgx : Gl X x := by rfl) (nd : (x == ("__debug__" : Str)) = false := by decide)
    (he : starEach [e, .Name x p2] X.env = (false, eval e X.env) :: starEach [.Name x p2] X.env := by rfl) (hpl : (backTo pos (starEach [.Name x p2] X.env)).any (·.1) = false := by rfl) :
    PE X (.Call (.Name "isinstance" p) [e, .Name x p2] [] pos) (tM c W (mUn (gIsC x) f)) := by
  obtain ⟨C, mC, IC⟩ := T
  refine pe_imp (pe_callB (C8.call_isC IC) hgl (F.mg ▸ hm) boot_isinstance (pa_cons h (pa_cons (Rw.pe_globE (v := .ref C) hgx ⟨_, mC, rfl⟩ nd) pa_nil) (hs := he)) (by decide) (by decide) he hpl) fun σ H Q ⟨w, σa, st, rl, q⟩ =>
    ⟨w, σa, st, rl, q.bind fun v a st1 w1 H1 _ rl1 ra p1 => ?_⟩
  unfold gIsC at p1
  split at p1
  · rename_i y fs hv
    split at p1
    · rename_i hy
      subst hy
      obtain ⟨b, C', dx, us, rfl, hb, m', pr⟩ := viewI_ok rl1.rs ra hv
      rw [← F.mg, mC] at m'
      cases m'
      exact ⟨b, dx, us, rfl, hb, p1.here rl1 rfl⟩
    · exact p1.elim
  · exact p1.elim
end
end Am
/-! ### Am: iteration over lists, tuples, texts alike -/
namespace Am
open PySem PySem.Spec PyProof.Rows L2
noncomputable def iAnyM (f : ME) : MI := fun σ st => match f σ st with
  | .ok x st1 => match viewS st1 x with
    | some _ => iListM f σ st
    | none => match viewT x with
      | some _ => iTupM f σ st
      | none => iStrM f σ st
  | _ => iListM f σ st
section
variable {X : Cx} {c : Ctx} {W : WX} {e tg : Expr} {f : ME} {σ : Slots} {st st1 : Store}
theorem i_any (h : PE X e (tM c W f)) (F : Fits X c := by exact ⟨rfl, rfl⟩) : PI X tg e (tMI c W (iAnyM f)) := ⟨fun pins s σ H R I ⟨w, σa, st, rl, q⟩ => by
  unfold iAnyM at q
  split at q
  · split at q
    · exact (i_list h F).run pins s σ H R I ⟨w, σa, st, rl, q⟩
    · split at q
      · exact (i_tup h F).run pins s σ H R I ⟨w, σa, st, rl, q⟩
      · exact (i_str h).run pins s σ H R I ⟨w, σa, st, rl, q⟩
  · exact (i_list h F).run pins s σ H R I ⟨w, σa, st, rl, q⟩⟩
def anyR (r : Res A) : Res Walk := r.bind fun x st1 => match viewS st1 x with
  | some xs => .ok ⟨xs, fun s => viewS s x = some xs⟩ st1
  | none => match viewT x with
    | some ds => .ok ⟨ds.map A.d, fun _ => True⟩ st1
    | none => match x with
      | .d (.str s) => .ok ⟨((chS s).map D.str).map A.d, fun _ => True⟩ st1
      | _ => .no
theorem iAny_ap (f : ME) (σ : Slots) (st : Store) : iAnyM f σ st = anyR (f σ st) := by
  unfold iAnyM anyR
  cases h : f σ st with
  | ok x st1 =>
    show (match viewS st1 x with | some _ => iListM f σ st | none => match viewT x with | some _ => iTupM f σ st | none => iStrM f σ st) = _
    cases hv : viewS st1 x with
    | some xs =>
      show iListM f σ st = _
      unfold iListM
      rw [h]
      simp only [Res.bind, hv]
    | none =>
      cases ht : viewT x with
      | some ds =>
        show iTupM f σ st = _
        unfold iTupM
        rw [h]
        simp only [Res.bind, hv, ht]
      | none =>
        show iStrM f σ st = _
        unfold iStrM
        rw [h]
        simp only [Res.bind, hv, ht] <;> (cases x with
          | c i => rfl
          | d x => cases x <;> rfl)
  | ex x st1 =>
    show iListM f σ st = _
    unfold iListM
    rw [h]
    rfl
  | no =>
    show iListM f σ st = _
    unfold iListM
    rw [h]
    rfl
theorem anyR_l (xs : List D) (st : Store) : anyR (.ok (.d (.list xs)) st) = .ok ⟨xs.map A.d, fun s => viewS s (.d (.list xs)) = some (xs.map A.d)⟩ st := rfl
theorem anyR_t (xs : List D) (st : Store) : anyR (.ok (.d (.tup xs)) st) = .ok ⟨xs.map A.d, fun _ => True⟩ st := rfl
theorem anyR_kt (xs : List D) (st : Store) : anyR (.ok (.d (.kt xs)) st) = .ok ⟨xs.map A.d, fun _ => True⟩ st := rfl
theorem anyR_s (x : Str) (st : Store) : anyR (.ok (.d (.str x)) st) = .ok ⟨((chS x).map D.str).map A.d, fun _ => True⟩ st := rfl
theorem anyR_c (i : Nat) (st : Store) : anyR (.ok (.c i) st) = match viewS st (.c i) with | some xs => .ok ⟨xs, fun s => viewS s (.c i) = some xs⟩ st | none => .no := by
  unfold anyR
  simp only [Res.bind]
  cases viewS st (.c i) <;> rfl
def methS2 (r : Res A) (g : GM) (fs : MA) (σ : Slots) : Res A := r.bind fun x st1 => match x with
  | .d (.str _) => (fs σ st1).bind fun xs st2 => g x xs st2
  | _ => .no
theorem mMethS_ap (g : GM) (f : ME) (fs : MA) (σ : Slots) (st : Store) : mMethS g f fs σ st = methS2 (f σ st) g fs σ := by
  unfold mMethS methS2
  congr 1
theorem methS2_ok (g : GM) (s : Str) (fs : MA) (σ : Slots) (st : Store) : methS2 (.ok (.d (.str s)) st) g fs σ = (fs σ st).bind fun xs st2 => g (.d (.str s)) xs st2 := rfl
/-! sorted, list, at their values -/
theorem gSortA_K {g : A} {k : Bool} {kvs : List (Key × A)} {ns : List Int} (h : viewS st g = none) (h1 : viewK st g = some kvs) (hn : intsK kvs = some ns) (hl : ns.length < 64) : gSortA k [g] st = mkL k (((isort ns).map D.int).map A.d) st := by
  unfold gSortA
  simp only [h, h1, hn]
  exact ifc_pos hl
theorem gSortA_KS {g : A} {k : Bool} {kvs : List (Key × A)} {ss : List Str} (h : viewS st g = none) (h1 : viewK st g = some kvs) (hn : intsK kvs = none ∨ kvs = []) (hs : strsK kvs = some ss) (hl : ss.length < 64) : gSortA k [g] st = mkL k (((ssort ss).map D.str).map A.d) st := by
  rcases hn with hn | hn
  · unfold gSortA
    simp only [h, h1, hn, hs]
    exact ifc_pos hl
  · subst hn
    cases hs
    exact gSortA_K h h1 rfl (by decide)
theorem gSortA_DT {g : A} {k : Bool} {kvs : List (List Key × A)} {ps : List Path} (h : viewS st g = none) (h1 : viewK st g = none) (h2 : viewDT st g = some kvs) (hp : pathsK kvs = some ps) : gSortA k [g] st = mkL k (((psort ps).map pD).map A.d) st := by
  unfold gSortA
  simp only [h, h1, h2, hp]
theorem gSortA_P {g : A} {k : Bool} {ps : List Path} (h : viewS st g = some ((ps.map pD).map A.d)) : gSortA k [g] st = mkL k (((psort ps).map pD).map A.d) st := by
  cases ps with
  | nil =>
    have h : viewS st g = some [] := h
    unfold gSortA
    simp only [h]
    rfl
  | cons p ps =>
    have : intsA (((p :: ps).map pD).map A.d) = none := rfl
    unfold gSortA
    simp only [h, this, pathsA_map]
theorem gSortA_S {g : A} {k : Bool} {ss : List Str} (h : viewS st g = some ((ss.map D.str).map A.d)) (hl : ss.length < 64) : gSortA k [g] st = mkL k (((ssort ss).map D.str).map A.d) st := by
  cases ss with
  | nil =>
    have h : viewS st g = some [] := h
    unfold gSortA
    simp only [h]
    rfl
  | cons s ss =>
    have h1 : intsA (((s :: ss).map D.str).map A.d) = none := rfl
    have h2 : pathsA (((s :: ss).map D.str).map A.d) = none := rfl
    unfold gSortA
    simp only [h, h1, h2, strsA_map]
    exact ifc_pos hl
theorem gListA_K {g : A} {k : Bool} {kvs : List (Key × A)} (h : viewK st g = some kvs) : gListA k [g] st = mkL k ((kvs.map fun p => kD p.1).map A.d) st := by
  unfold gListA
  simp only [h]
theorem gListA_DT {g : A} {k : Bool} {kvs : List (List Key × A)} (h : viewK st g = none) (h1 : viewDT st g = some kvs) : gListA k [g] st = mkL k ((kvs.map fun p => D.tup (p.1.map kD)).map A.d) st := by
  unfold gListA
  simp only [h, h1]
end
/-- a comprehension whose items change the store, and leave cells behind -/
theorem mLc_eff2 {it : MI} {vs : List Nat} {pt : Pt} {f : ME} {σ : Slots} {st st1 : Store} {xs : List A} {ok : Store → Prop} (I : Nat → List D → Store → Prop) (hit : it σ st = .ok ⟨xs, ok⟩ st1) (hl : xs.length ≤ SZ) (h0 : I 0 [] st1)
    (hok : ∀ j ds s J, I j ds s → ok (s ++ (.lst (ds.map A.d) :: J))) (hlen : ∀ j ds s, I j ds s → s.length = st1.length ∧ ∀ i, i < st1.length → s[i]? = st1[i]? ∨ ∃ x, s[i]? = some x ∧ CBelow st1.length x)
    (ht : ∀ j x ds s J, xs[j]? = some x → I j ds s → ∃ σ1 y s' J', pt (wipeA σ vs) x = some σ1 ∧ f σ1 (s ++ (.lst (ds.map A.d) :: J)) = .ok (.d y) (s' ++ (.lst (ds.map A.d) :: J')) ∧ I (j + 1) (ds ++ [y]) s') :
    ∃ ds s, mLc false vs pt it mYes f σ st = .ok (.d (.list ds)) s ∧ I xs.length ds s := by
  obtain ⟨acc, s2, e1, e2, ds, s, J, rfl, rfl, hI⟩ := lcA_inv (pt := pt) (f := f) (n := st1.length) (ok := ok) (σ := wipeA σ vs) (fun j acc s2 => ∃ ds s J, acc = ds.map A.d ∧ s2 = s ++ (.lst acc :: J) ∧ I j ds s) (fun j acc s2 ⟨ds, s, J, h1, h2, h3⟩ => by subst h1 h2; exact hok j ds s J h3) xs 0 [] (st1 ++ [.lst []]) (by simp) ⟨[], st1, [], rfl, rfl, h0⟩ (by simpa using hl)
    (fun j x acc s2 hx _ ⟨ds, s, J, h1, h2, h3⟩ => by
      subst h1 h2
      rw [Nat.zero_add] at h3 ⊢
      obtain ⟨σ1, y, s', J', e1, e2, e3⟩ := ht j x ds s J hx h3
      have l1 := (hlen _ _ _ e3).1
      refine ⟨σ1, _, _, e1, e2, by rw [← l1]; exact loc_get0 _ _, ds ++ [y], s', J', by rw [List.map_append]; rfl, ?_, e3⟩
      rw [← l1, loc_set0]
      rfl)
  rw [Nat.zero_add] at hI
  obtain ⟨l1, l2⟩ := hlen _ _ _ hI
  refine ⟨ds, s, ?_, hI⟩
  unfold mLc
  rw [hit]
  show (lcA pt mYes f st1.length ok (wipeA σ vs) xs (st1 ++ [.lst []])).bind (fun _ st2 => lcEnd false st1 st2) = _
  rw [e1]
  show lcEnd false st1 (s ++ (.lst (ds.map A.d) :: J)) = _
  unfold lcEnd
  rw [← l1, loc_get0, List.getElem?_cons_zero]
  simp only [Bool.false_eq_true, if_false, allD_map]
  rw [need_pos, List.take_left']
  · rfl
  · refine ⟨by rw [List.length_append]; omega, fun i hi => ?_⟩
    rw [List.getElem?_append_left (by omega)]
    exact l2 i hi
/-- a comprehension over data -/
theorem mLc_datJ {α : Type} {f : α → D} (g : α → D) {xs : List α} {it : MI} {vs : List Nat} {pt : Pt} {m : ME} {σ : Slots} {st st1 : Store} {ok : Store → Prop} (hit : it σ st = .ok ⟨(xs.map f).map A.d, ok⟩ st1) (hok : ∀ L, ok (st1 ++ L)) (hl : xs.length ≤ SZ)
    (ht : ∀ x ∈ xs, ∀ L : Store, ∃ σ1 J, pt (wipeA σ vs) (.d (f x)) = some σ1 ∧ m σ1 (st1 ++ L) = .ok (.d (g x)) (st1 ++ L ++ J)) :
    mLc false vs pt it mYes m σ st = .ok (.d (.list (xs.map g))) st1 := by
  obtain ⟨ds, s, e, rfl, rfl⟩ := mLc_eff2 (vs := vs) (pt := pt) (f := m) (σ := σ) (fun j ds s => ds = (xs.take j).map g ∧ s = st1) hit (by rw [List.length_map, List.length_map]; exact hl) ⟨rfl, rfl⟩ (fun j ds s J ⟨_, e⟩ => by subst e; exact hok _) (fun j ds s ⟨_, e⟩ => by subst e; exact ⟨rfl, fun _ _ => .inl rfl⟩) fun j x ds s J hx ⟨e1, e2⟩ => by
    subst e1 e2
    rw [List.getElem?_map, List.getElem?_map] at hx
    obtain ⟨z0, hz0, rfl⟩ := Option.map_eq_some_iff.mp hx
    obtain ⟨z, hz, rfl⟩ := Option.map_eq_some_iff.mp hz0
    obtain ⟨σ1, J', p1, p2⟩ := ht z (List.mem_of_getElem? hz) (.lst (((xs.take j).map g).map A.d) :: J)
    refine ⟨σ1, g z, s, J ++ J', p1, ?_, ?_, rfl⟩
    · rw [p2, List.append_assoc]
      rfl
    · rw [List.take_add_one, hz, List.map_append]
      rfl
  rw [e, List.length_map, List.length_map, List.take_of_length_le (Nat.le_refl _)]
/-- data that are walked through item by item -/
def Seqs (a : A) (xs : List D) : Prop := ∀ st, ∃ ok, anyR (.ok a st) = .ok ⟨xs.map A.d, ok⟩ st ∧ ∀ s, ok s
theorem seqs_l (xs : List D) : Seqs (.d (.list xs)) xs := fun _ => ⟨_, rfl, fun _ => rfl⟩
theorem seqs_t (xs : List D) : Seqs (.d (.tup xs)) xs := fun _ => ⟨_, rfl, fun _ => trivial⟩
theorem seqs_s (x : Str) : Seqs (.d (.str x)) ((chS x).map D.str) := fun _ => ⟨_, rfl, fun _ => trivial⟩
end Am
/-! ### Am: an instance becomes data with the cells in its attributes -/
namespace Am
open PySem PySem.Spec PyProof.Rows L2
def frzs : List (Str × A) → Store → Option (List (Str × D) × Store)
  | [], st => some ([], st)
  | (k, a) :: r, st => match frz a st with
    | .ok (.d x) st1 => (frzs r st1).map fun p => ((k, x) :: p.1, p.2)
    | _ => none
noncomputable def frz2 (a : A) (st : Store) : Res A := match a with
  | .d x => .ok (.d x) st
  | .c i => match st[i]? with
    | some (.ins x fs) => match frzs fs st with
      | some (ds, st1) => ifc (st1[i]? = some (.ins x fs)) (.ok (.d (.ins x ds)) (st1.set i (.fz (.ins x ds)))) .no
      | none => .no
    | _ => .no
noncomputable def mFrz2 (f : ME) : ME := fun σ st => (f σ st).bind frz2
section
variable {c : Ctx} {w : Wd} {n : Nat} {σa : Slots} {st : Store} {σ : L2.St} {H : Hp} {W : WX} {X : Cx} {e : Expr} {f : ME}
theorem frzs_ok : ∀ {fs : List (Str × A)} {ds : List (Str × D)} {us : List (Str × V)} {st st1 : Store} {w : Wd}, RelS c w st H → Paired (KD (RA c w st.length)) us fs → frzs fs st = some (ds, st1) → ∃ w1, Ext w st.length w1 st1.length ∧ RelS c w1 st1 H ∧ Paired (KD fun v d => DR c w1.G d v) us ds
  | [], ds, us, st, st1, w, r, p, h => by
    cases h
    cases p
    exact ⟨w, Ext.refl _ _, r, .nil⟩
  | (k, a) :: fs, ds, us, st, st1, w, r, p, h => by
    cases p with
    | cons p1 p2 =>
      rw [frzs] at h
      cases hf : frz a st with
      | ok b st2 =>
        rw [hf] at h
        cases b with
        | c j => cases h
        | d x =>
          obtain ⟨⟨ds1, st3⟩, h1, h2⟩ := Option.map_eq_some_iff.mp h
          cases h2
          obtain ⟨w2, e2, r2, a2⟩ := frz_rs r p1.2 hf
          obtain ⟨w3, e3, r3, a3⟩ := frzs_ok r2 (paired_imp p2 fun _ _ q => ⟨q.1, q.2.ext e2⟩) h1
          exact ⟨w3, e2.trans e3, r3, .cons ⟨p1.1, RA.ext (a := .d x) e3 a2⟩ a3⟩
      | ex _ _ => rw [hf] at h; cases h
      | no => rw [hf] at h; cases h
theorem frz2_ok {a : A} {v : V} {Q : VK} (rl : Rel c w σa st σ H) (r : RA c w st.length v a) (p : Post c w st.length σa σ (RA c) W Q (frz2 a st)) : Q v H := by
  cases a with
  | d x => exact p.here rl r
  | c i =>
    obtain ⟨hi, rfl⟩ := r
    have p : Post c w st.length σa σ (RA c) W Q (match st[i]? with | some (.ins x fs) => (match frzs fs st with | some (ds, st1) => ifc (st1[i]? = some (.ins x fs)) (.ok (.d (.ins x ds)) (st1.set i (.fz (.ins x ds)))) .no | none => .no) | _ => .no) := p
    split at p
    · rename_i x fs h
      split at p
      · rename_i ds st1 hf
        unfold ifc at p
        split at p
        · rename_i h1
          obtain ⟨g0, C, dx, us, ho, hm, pr⟩ := rl.rs.cell _ _ h
          obtain ⟨w1, e1, r1, pr1⟩ := frzs_ok rl.rs pr hf
          have hE : w1.E i = w.E i := e1.cells i hi
          obtain ⟨g1, _⟩ := r1.cell _ _ h1
          rw [← hE] at ho
          have hd : DR c (upd w1.G (w1.E i) (.ins C dx us)) (.ins x ds) (.ref (w1.E i)) := ⟨_, C, dx, us, rfl, upd_same, hm, (DRf.of pr1).same (same_upd g1)⟩
          have e2 : Ext w st.length (w1.put (w1.E i) (.ins C dx us)) (st1.set i (.fz (.ins x ds))).length := e1.trans (by rw [List.length_set]; exact w1.put_ext g1)
          rw [← hE]
          exact p _ _ _ e2 ⟨r1.freeze h1 g1 ho hd, rl.len, fun j a hj => let ⟨v, e, q⟩ := rl.sl j a hj; ⟨v, e, q.ext e2⟩⟩ hd
        · exact p.elim
      · exact p.elim
    · exact p.elim
theorem e_frz2 (h : PE X e (tM c W f)) : PE X e (tM c W (mFrz2 f)) := pe_imp h fun σ H Q ⟨w, σa, st, rl, p⟩ => ⟨w, σa, st, rl, p.bind fun v x st1 w1 H1 _ rl1 rx p1 => frz2_ok rl1 rx p1⟩
end
end Am
namespace Lw
open PySem PySem.Spec PyProof.Rows L2 Rw Fld
section
variable {P : Program} {w : World} {K : PySem.W.Frag} {mg : Str → Option Value} {base : Heap}
def topS (i : Nat) : Stmt := PySem.Challenge.pw_rotward_k28_bytes_of_data.main.body.getD i (.Pass ⟨0, 0, 0, 0⟩)
def tabF : List (Str × Str) := [("State", "block"), ("State", "snapshots"), ("State", "stripes"), ("State", "things"), ("Reader", "at"), ("Reader", "data")]
def isF : Str → Str → Bool := fun x f => tabF.contains (x, f)
def tabE : List ((Str × Str) × Bool) := [(("DamagedData", "RotError"), true), (("RotError", "RotError"), true)]
def isE : Str → Str → Option Bool := fun x y => tabE.lookup (x, y)
def tabK : List ((Str × Str) × Bool) := [(("DamagedData", "DamagedData"), true), (("DamagedData", "ValueError"), true), (("RotError", "ValueError"), true)]
def isK : Str → Str → Option Bool := fun x y => tabK.lookup (x, y)
structure Txt (K : PySem.W.Frag) (mg : Str → Option Value) : Prop where
  x_RotError : Am.ExcT K mg "RotError"
  x_DamagedData : Am.ExcT K mg "DamagedData"
  mk_State : Am.MkC K mg "State"
  mk_Reader : Am.MkC K mg "Reader"
  State___init__ : Am.DefM K mg "State" "__init__" "State.__init__" (inClass (topS 6) 0) ["self", "stripes", "block"]
  State_copy : Am.DefM K mg "State" "copy" "State.copy" (inClass (topS 6) 1) ["self"]
  State_used : Am.DefM K mg "State" "used" "State.used" (inClass (topS 6) 2) ["self"]
  State_after : Am.DefM K mg "State" "after" "State.after" (inClass (topS 6) 3) ["self", "record"]
  State_data : Am.DefM K mg "State" "data" "State.data" (inClass (topS 6) 4) ["self"]
  Reader___init__ : Am.DefM K mg "Reader" "__init__" "Reader.__init__" (inClass (topS 21) 0) ["self", "data"]
  Reader_read_byte : Am.DefM K mg "Reader" "read_byte" "Reader.read_byte" (inClass (topS 21) 1) ["self"]
  Reader_read_choice : Am.DefM K mg "Reader" "read_choice" "Reader.read_choice" (inClass (topS 21) 2) ["self", "count"]
  Reader_read_number : Am.DefM K mg "Reader" "read_number" "Reader.read_number" (inClass (topS 21) 3) ["self"]
  Reader_read_count : Am.DefM K mg "Reader" "read_count" "Reader.read_count" (inClass (topS 21) 4) ["self"]
  Reader_read_numbers : Am.DefM K mg "Reader" "read_numbers" "Reader.read_numbers" (inClass (topS 21) 5) ["self"]
  Reader_read_name : Am.DefM K mg "Reader" "read_name" "Reader.read_name" (inClass (topS 21) 6) ["self"]
  Reader_read_path : Am.DefM K mg "Reader" "read_path" "Reader.read_path" (inClass (topS 21) 7) ["self"]
  Reader_read_pair : Am.DefM K mg "Reader" "read_pair" "Reader.read_pair" (inClass (topS 21) 8) ["self"]
  Reader_read_record : Am.DefM K mg "Reader" "read_record" "Reader.read_record" (inClass (topS 21) 9) ["self"]
  Reader_read_group : Am.DefM K mg "Reader" "read_group" "Reader.read_group" (inClass (topS 21) 10) ["self"]
  Reader_read_thing : Am.DefM K mg "Reader" "read_thing" "Reader.read_thing" (inClass (topS 21) 11) ["self"]
  Reader_read_things : Am.DefM K mg "Reader" "read_things" "Reader.read_things" (inClass (topS 21) 12) ["self"]
  Reader_read_image : Am.DefM K mg "Reader" "read_image" "Reader.read_image" (inClass (topS 21) 13) ["self", "stripes", "block"]
  Reader_end : Am.DefM K mg "Reader" "end" "Reader.end" (inClass (topS 21) 14) ["self"]
  fl : Am.FldT ⟨K, mg⟩ isF
  em : Am.ExmT ⟨K, mg⟩ isE
  in_State : Am.InsT K mg "State"
  ix : Am.IsxT ⟨K, mg⟩ isK
  b_ValueError : mg "ValueError" = none
  b_bool : mg "bool" = none
  b_int : mg "int" = none
  b_isinstance : mg "isinstance" = none
  b_len : mg "len" = none
  b_list : mg "list" = none
  b_ord : mg "ord" = none
  b_range : mg "range" = none
  b_sorted : mg "sorted" = none
  b_str : mg "str" = none
  b_tuple : mg "tuple" = none
  i_WORDS : Am.GlobI K mg "WORDS" ["folder", "file", "put", "trim", "move", "drop", "snap", "forget", "back"]
  c_WORDS : GlobT K mg "WORDS" [.str "folder", .str "file", .str "put", .str "trim", .str "move", .str "drop", .str "snap", .str "forget", .str "back"]
  c_LETTERS : Glob mg "LETTERS" (.str "abcdefghijklmnopqrstuvwxyz0123456789_")
  c_NUMBER_BYTES : Glob mg "NUMBER_BYTES" (.int 10)
  _wall : Def K mg "_wall" "_wall" (topS 0) ["k"]
  sorted_things : Def K mg "sorted_things" "sorted_things" (topS 5) ["things"]
  write_number : Def K mg "write_number" "write_number" (topS 11) ["number"]
  write_list : Def K mg "write_list" "write_list" (topS 12) ["items"]
  write_numbers : Def K mg "write_numbers" "write_numbers" (topS 13) ["numbers"]
  write_name : Def K mg "write_name" "write_name" (topS 14) ["name"]
  write_path : Def K mg "write_path" "write_path" (topS 15) ["path"]
  write_thing : Def K mg "write_thing" "write_thing" (topS 16) ["thing"]
  write_things : Def K mg "write_things" "write_things" (topS 17) ["things"]
  write_record : Def K mg "write_record" "write_record" (topS 18) ["record"]
  write_group : Def K mg "write_group" "write_group" (topS 19) ["records"]
  write_image : Def K mg "write_image" "write_image" (topS 20) ["commits", "state"]
  _law_next : Def K mg "_law_next" "_law_next" (topS 23) ["_law_state", "_law_limit"]
  _law_same : Def K mg "_law_same" "_law_same" (topS 24) ["_law_actual", "_law_expected"]
  _law_number : Def K mg "_law_number" "_law_number" (topS 25) ["_law_number_here"]
  _law_listed : Def K mg "_law_listed" "_law_listed" (topS 26) ["_law_parts"]
  _law_name_code : Def K mg "_law_name_code" "_law_name_code" (topS 27) ["_law_name"]
  _law_path_code : Def K mg "_law_path_code" "_law_path_code" (topS 28) ["_law_path"]
  _law_things_code : Def K mg "_law_things_code" "_law_things_code" (topS 29) ["_law_things_here"]
  _law_record_code : Def K mg "_law_record_code" "_law_record_code" (topS 30) ["_law_record_here"]
  _law_image_code : Def K mg "_law_image_code" "_law_image_code" (topS 31) ["_law_commits", "_law_things_here", "_law_snapshots"]
  _law_word : Def K mg "_law_word" "_law_word" (topS 32) ["_law_state"]
  _law_some_path : Def K mg "_law_some_path" "_law_some_path" (topS 33) ["_law_state"]
  _law_big : Def K mg "_law_big" "_law_big" (topS 34) ["_law_state"]
  _law_record : Def K mg "_law_record" "_law_record" (topS 35) ["_law_state"]
  _law_things : Def K mg "_law_things" "_law_things" (topS 36) ["_law_state"]
  _law_item_list : Def K mg "_law_item_list" "_law_item_list" (topS 37) ["_law_things_here"]
  _law_ends : Def K mg "_law_ends" "_law_ends" (topS 38) ["_law_reader", "_law_tail"]
  _law_read : Def K mg "_law_read" "_law_read" (topS 39) ["_law_reader", "_law_form"]
  _law_asks : Def K mg "_law_asks" "_law_asks" (topS 40) ["_law_form", "_law_thing", "_law_told", "_law_due", "_law_tail"]
  law : Def K mg "law" "law" (topS 41) ["_law_script"]
theorem sc__wall : FnScope ["k"] ["k"] (defScope (topS 0)) := ⟨rfl, rfl, rfl, by decide +kernel, rfl, by decide +kernel, by decide +kernel⟩
theorem sc_sorted_things : FnScope ["things", "path"] ["things"] (defScope (topS 5)) := ⟨rfl, rfl, rfl, by decide +kernel, rfl, by decide +kernel, by decide +kernel⟩
theorem sc_write_number : FnScope ["number", "data"] ["number"] (defScope (topS 11)) := ⟨rfl, rfl, rfl, by decide +kernel, rfl, by decide +kernel, by decide +kernel⟩
theorem sc_write_list : FnScope ["items", "data", "item"] ["items"] (defScope (topS 12)) := ⟨rfl, rfl, rfl, by decide +kernel, rfl, by decide +kernel, by decide +kernel⟩
theorem sc_write_numbers : FnScope ["numbers", "number"] ["numbers"] (defScope (topS 13)) := ⟨rfl, rfl, rfl, by decide +kernel, rfl, by decide +kernel, by decide +kernel⟩
theorem sc_write_name : FnScope ["name", "character"] ["name"] (defScope (topS 14)) := ⟨rfl, rfl, rfl, by decide +kernel, rfl, by decide +kernel, by decide +kernel⟩
theorem sc_write_path : FnScope ["path", "name"] ["path"] (defScope (topS 15)) := ⟨rfl, rfl, rfl, by decide +kernel, rfl, by decide +kernel, by decide +kernel⟩
theorem sc_write_thing : FnScope ["thing", "length", "stripes"] ["thing"] (defScope (topS 16)) := ⟨rfl, rfl, rfl, by decide +kernel, rfl, by decide +kernel, by decide +kernel⟩
theorem sc_write_things : FnScope ["things", "path"] ["things"] (defScope (topS 17)) := ⟨rfl, rfl, rfl, by decide +kernel, rfl, by decide +kernel, by decide +kernel⟩
theorem sc_write_record : FnScope ["record", "word", "data", "touched", "block", "stripe"] ["record"] (defScope (topS 18)) := ⟨rfl, rfl, rfl, by decide +kernel, rfl, by decide +kernel, by decide +kernel⟩
theorem sc_write_group : FnScope ["records", "record"] ["records"] (defScope (topS 19)) := ⟨rfl, rfl, rfl, by decide +kernel, rfl, by decide +kernel, by decide +kernel⟩
theorem sc_write_image : FnScope ["commits", "state", "snapshots", "name"] ["commits", "state"] (defScope (topS 20)) := ⟨rfl, rfl, rfl, by decide +kernel, rfl, by decide +kernel, by decide +kernel⟩
theorem sc__law_next : FnScope ["_law_state", "_law_limit", "_law_cell", "_law_value"] ["_law_state", "_law_limit"] (defScope (topS 23)) := ⟨rfl, rfl, rfl, by decide +kernel, rfl, by decide +kernel, by decide +kernel⟩
theorem sc__law_same : FnScope ["_law_actual", "_law_expected", "_law_k"] ["_law_actual", "_law_expected"] (defScope (topS 24)) := ⟨rfl, rfl, rfl, by decide +kernel, rfl, by decide +kernel, by decide +kernel⟩
theorem sc__law_number : FnScope ["_law_number_here", "_law_data", "_law_k"] ["_law_number_here"] (defScope (topS 25)) := ⟨rfl, rfl, rfl, by decide +kernel, rfl, by decide +kernel, by decide +kernel⟩
theorem sc__law_listed : FnScope ["_law_parts", "_law_data", "_law_part"] ["_law_parts"] (defScope (topS 26)) := ⟨rfl, rfl, rfl, by decide +kernel, rfl, by decide +kernel, by decide +kernel⟩
theorem sc__law_name_code : FnScope ["_law_name", "_law_letters", "_law_small", "_law_codes", "_law_letter", "_law_code"] ["_law_name"] (defScope (topS 27)) := ⟨rfl, rfl, rfl, by decide +kernel, rfl, by decide +kernel, by decide +kernel⟩
theorem sc__law_path_code : FnScope ["_law_path", "_law_name"] ["_law_path"] (defScope (topS 28)) := ⟨rfl, rfl, rfl, by decide +kernel, rfl, by decide +kernel, by decide +kernel⟩
theorem sc__law_things_code : FnScope ["_law_things_here", "_law_parts", "_law_path", "_law_data", "_law_length", "_law_stripes", "_law_stripe"] ["_law_things_here"] (defScope (topS 29)) := ⟨rfl, rfl, rfl, by decide +kernel, rfl, by decide +kernel, by decide +kernel⟩
theorem sc__law_record_code : FnScope ["_law_record_here", "_law_words", "_law_data", "_law_pairs", "_law_block", "_law_stripe"] ["_law_record_here"] (defScope (topS 30)) := ⟨rfl, rfl, rfl, by decide +kernel, rfl, by decide +kernel, by decide +kernel⟩
theorem sc__law_image_code : FnScope ["_law_commits", "_law_things_here", "_law_snapshots", "_law_parts", "_law_name"] ["_law_commits", "_law_things_here", "_law_snapshots"] (defScope (topS 31)) := ⟨rfl, rfl, rfl, by decide +kernel, rfl, by decide +kernel, by decide +kernel⟩
theorem sc__law_word : FnScope ["_law_state", "_law_words"] ["_law_state"] (defScope (topS 32)) := ⟨rfl, rfl, rfl, by decide +kernel, rfl, by decide +kernel, by decide +kernel⟩
theorem sc__law_some_path : FnScope ["_law_state", "_law_k"] ["_law_state"] (defScope (topS 33)) := ⟨rfl, rfl, rfl, by decide +kernel, rfl, by decide +kernel, by decide +kernel⟩
theorem sc__law_big : FnScope ["_law_state"] ["_law_state"] (defScope (topS 34)) := ⟨rfl, rfl, rfl, by decide +kernel, rfl, by decide +kernel, by decide +kernel⟩
theorem sc__law_record : FnScope ["_law_state", "_law_word_here", "_law_path", "_law_count", "_law_k"] ["_law_state"] (defScope (topS 35)) := ⟨rfl, rfl, rfl, by decide +kernel, rfl, by decide +kernel, by decide +kernel⟩
theorem sc__law_things : FnScope ["_law_state", "_law_things_here", "_law_k", "_law_path", "_law_j"] ["_law_state"] (defScope (topS 36)) := ⟨rfl, rfl, rfl, by decide +kernel, rfl, by decide +kernel, by decide +kernel⟩
theorem sc__law_item_list : FnScope ["_law_things_here", "_law_path"] ["_law_things_here"] (defScope (topS 37)) := ⟨rfl, rfl, rfl, by decide +kernel, rfl, by decide +kernel, by decide +kernel⟩
theorem sc__law_ends : FnScope ["_law_reader", "_law_tail", "e"] ["_law_reader", "_law_tail"] (defScope (topS 38)) := ⟨rfl, rfl, rfl, by decide +kernel, rfl, by decide +kernel, by decide +kernel⟩
theorem sc__law_read : FnScope ["_law_reader", "_law_form"] ["_law_reader", "_law_form"] (defScope (topS 39)) := ⟨rfl, rfl, rfl, by decide +kernel, rfl, by decide +kernel, by decide +kernel⟩
theorem sc__law_asks : FnScope ["_law_form", "_law_thing", "_law_told", "_law_due", "_law_tail", "_law_passed", "_law_reader"] ["_law_form", "_law_thing", "_law_told", "_law_due", "_law_tail"] (defScope (topS 40)) := ⟨rfl, rfl, rfl, by decide +kernel, rfl, by decide +kernel, by decide +kernel⟩
theorem sc_law : FnScope ["_law_script", "_law_state", "_law_tail", "_law_number_here", "_law_path", "_law_records", "_law_record_here", "_law_due", "_law_things_here", "_law_snapshots", "_law_k", "_law_commits", "_law_reader", "_law_told", "_law_listed_here", "_law_name"] ["_law_script"] (defScope (topS 41)) := ⟨rfl, rfl, rfl, by decide +kernel, rfl, by decide +kernel, by decide +kernel⟩
theorem sc_State___init__ : FnScope ["self", "stripes", "block"] ["self", "stripes", "block"] (defScope (inClass (topS 6) 0)) := ⟨rfl, rfl, rfl, by decide +kernel, rfl, by decide +kernel, by decide +kernel⟩
theorem sc_State_copy : FnScope ["self"] ["self"] (defScope (inClass (topS 6) 1)) := ⟨rfl, rfl, rfl, by decide +kernel, rfl, by decide +kernel, by decide +kernel⟩
theorem sc_State_used : FnScope ["self"] ["self"] (defScope (inClass (topS 6) 2)) := ⟨rfl, rfl, rfl, by decide +kernel, rfl, by decide +kernel, by decide +kernel⟩
theorem sc_State_after : FnScope ["self", "record"] ["self", "record"] (defScope (inClass (topS 6) 3)) := ⟨rfl, rfl, rfl, by decide +kernel, rfl, by decide +kernel, by decide +kernel⟩
theorem sc_State_data : FnScope ["self", "snapshots", "name"] ["self"] (defScope (inClass (topS 6) 4)) := ⟨rfl, rfl, rfl, by decide +kernel, rfl, by decide +kernel, by decide +kernel⟩
theorem sc_Reader___init__ : FnScope ["self", "data"] ["self", "data"] (defScope (inClass (topS 21) 0)) := ⟨rfl, rfl, rfl, by decide +kernel, rfl, by decide +kernel, by decide +kernel⟩
theorem sc_Reader_read_byte : FnScope ["self"] ["self"] (defScope (inClass (topS 21) 1)) := ⟨rfl, rfl, rfl, by decide +kernel, rfl, by decide +kernel, by decide +kernel⟩
theorem sc_Reader_read_choice : FnScope ["self", "count", "byte"] ["self", "count"] (defScope (inClass (topS 21) 2)) := ⟨rfl, rfl, rfl, by decide +kernel, rfl, by decide +kernel, by decide +kernel⟩
theorem sc_Reader_read_number : FnScope ["self", "total", "factor", "index", "byte"] ["self"] (defScope (inClass (topS 21) 3)) := ⟨rfl, rfl, rfl, by decide +kernel, rfl, by decide +kernel, by decide +kernel⟩
theorem sc_Reader_read_count : FnScope ["self", "count"] ["self"] (defScope (inClass (topS 21) 4)) := ⟨rfl, rfl, rfl, by decide +kernel, rfl, by decide +kernel, by decide +kernel⟩
theorem sc_Reader_read_numbers : FnScope ["self", "_"] ["self"] (defScope (inClass (topS 21) 5)) := ⟨rfl, rfl, rfl, by decide +kernel, rfl, by decide +kernel, by decide +kernel⟩
theorem sc_Reader_read_name : FnScope ["self", "name", "_", "code", "letters", "letter"] ["self"] (defScope (inClass (topS 21) 6)) := ⟨rfl, rfl, rfl, by decide +kernel, rfl, by decide +kernel, by decide +kernel⟩
theorem sc_Reader_read_path : FnScope ["self", "_"] ["self"] (defScope (inClass (topS 21) 7)) := ⟨rfl, rfl, rfl, by decide +kernel, rfl, by decide +kernel, by decide +kernel⟩
theorem sc_Reader_read_pair : FnScope ["self", "block"] ["self"] (defScope (inClass (topS 21) 8)) := ⟨rfl, rfl, rfl, by decide +kernel, rfl, by decide +kernel, by decide +kernel⟩
theorem sc_Reader_read_record : FnScope ["self", "word", "path", "length", "_"] ["self"] (defScope (inClass (topS 21) 9)) := ⟨rfl, rfl, rfl, by decide +kernel, rfl, by decide +kernel, by decide +kernel⟩
theorem sc_Reader_read_group : FnScope ["self", "_"] ["self"] (defScope (inClass (topS 21) 10)) := ⟨rfl, rfl, rfl, by decide +kernel, rfl, by decide +kernel, by decide +kernel⟩
theorem sc_Reader_read_thing : FnScope ["self", "length"] ["self"] (defScope (inClass (topS 21) 11)) := ⟨rfl, rfl, rfl, by decide +kernel, rfl, by decide +kernel, by decide +kernel⟩
theorem sc_Reader_read_things : FnScope ["self", "things", "_", "path"] ["self"] (defScope (inClass (topS 21) 12)) := ⟨rfl, rfl, rfl, by decide +kernel, rfl, by decide +kernel, by decide +kernel⟩
theorem sc_Reader_read_image : FnScope ["self", "stripes", "block", "commits", "state", "_", "name"] ["self", "stripes", "block"] (defScope (inClass (topS 21) 13)) := ⟨rfl, rfl, rfl, by decide +kernel, rfl, by decide +kernel, by decide +kernel⟩
theorem sc_Reader_end : FnScope ["self"] ["self"] (defScope (inClass (topS 21) 14)) := ⟨rfl, rfl, rfl, by decide +kernel, rfl, by decide +kernel, by decide +kernel⟩
end
end Lw
namespace Lw
open PySem PySem.Spec PyProof.Rows L2 Am
section
variable {P : Program} {w : World} {K : PySem.W.Frag} {mg : Str → Option Value} {base : Heap}
noncomputable def b__wall : MS := (mWhile (mTru (mC (.bl true)))
  mSkip)
noncomputable def m__wall : MF := mF 1 1 0 b__wall
theorem has__wall (T : Txt K mg) : Rw.Has P w K mg base (L2.CX P w) 1 "_wall" ["k"] (spM ⟨K, mg⟩ m__wall) := by
  exact def_has (m := b__wall) 1 1 0 T._wall sc__wall rfl rfl (fun f cdv A outer s H E hr tk => (s_one (s_while (passes_of rfl) (t_tru e_bl)
  (s_one s_pass))))
noncomputable def b_write_number : MS := (mSeq (mSet 1 (mList true mNil))
  (mSeq (mWhile (mTst (mBin gGe (mVar 0) (mC (.int 128))))
  (mSeq (mDo (mMethL gAppend (mVar 1) (mCons (mBin (gAdd false) (mBin gMod (mVar 0) (mC (.int 128))) (mC (.int 128))) mNil)))
  (mSet 0 (mBin gFdiv (mVar 0) (mC (.int 128))))))
  (mRet (mBin (gAdd true) (mVar 1) (mList false (mCons (mVar 0) mNil))))))
noncomputable def m_write_number : MF := mF 1 2 3 b_write_number
theorem has_write_number (T : Txt K mg) : Rw.Has P w K mg base (L2.CX P w) 1 "write_number" ["number"] (spM ⟨K, mg⟩ m_write_number) := by
  exact def_has (m := b_write_number) 1 2 3 T.write_number sc_write_number rfl rfl (fun f cdv A outer s H E hr tk => (s_cons (s_set (j := 1) sc_write_number.nd rfl (by first | exact Or.inl rfl | exact Or.inr rfl) (e_list true a_nil))
  (s_cons (s_while (passes_of rfl) (t_ge (e_var (i := 0)) e_int)
  (s_cons (s_do (e_methL PySem.F.slot_list_append PySem.F.type_list_append mt_append gAppend_ok (e_var (i := 1)) (a_cons (e_add false (e_mod (e_var (i := 0)) e_int) e_int) a_nil) ⟨rfl, rfl⟩))
  (s_one (s_set (j := 0) sc_write_number.nd rfl (by first | exact Or.inl rfl | exact Or.inr rfl) (e_fdiv (e_var (i := 0)) e_int)))))
  (s_one (s_ret (e_add true (e_var (i := 1)) (e_list false (a_cons (e_var (i := 0)) a_nil))))))))
noncomputable def b_write_list : MS := (mSeq (mSet 1 (mCall m_write_number (mCons (mCallB gLen (mCons (mVar 0) mNil)) mNil)))
  (mSeq (mFor (iAnyM (mVar 0)) (kName 2)
  (mDo (mMethL gExtend (mVar 1) (mCons (mVar 2) mNil))))
  (mRet (mVar 1))))
noncomputable def m_write_list : MF := mF 1 3 2 b_write_list
theorem has_write_list (T : Txt K mg) : Rw.Has P w K mg base (L2.CX P w) 2 "write_list" ["items"] (spM ⟨K, mg⟩ m_write_list) := by
  have h_write_number := has_write_number (P := P) (w := w) (base := base) T
  exact def_has (m := b_write_list) 1 3 2 T.write_list sc_write_list rfl rfl (fun f cdv A outer s H E hr tk => (s_cons (s_set (j := 1) sc_write_list.nd rfl (by first | exact Or.inl rfl | exact Or.inr rfl) (e_call h_write_number (hr.mono (by decide)) tk (a_cons (e_len (a_cons (e_var (i := 0)) a_nil) T.b_len) a_nil)))
  (s_cons (s_for (passes_of rfl) rfl (i_any (e_var (i := 0))) (g_name (j := 2) sc_write_list.nd rfl (by first | exact Or.inl rfl | exact Or.inr rfl))
  (s_one (s_do (e_methL PySem.F.slot_list_extend PySem.F.type_list_extend mt_extend gExtend_ok (e_var (i := 1)) (a_cons (e_var (i := 2)) a_nil) ⟨rfl, rfl⟩))))
  (s_one (s_ret (e_var (i := 1)))))))
noncomputable def b_write_numbers : MS := (mRet (mCall m_write_list (mCons (mLc false [1] (pt1 1) (iAnyM (mVar 0)) mYes (mFrz (mCall m_write_number (mCons (mVar 1) mNil)))) mNil)))
noncomputable def m_write_numbers : MF := mF 1 2 0 b_write_numbers
theorem has_write_numbers (T : Txt K mg) : Rw.Has P w K mg base (L2.CX P w) 3 "write_numbers" ["numbers"] (spM ⟨K, mg⟩ m_write_numbers) := by
  have h_write_list := has_write_list (P := P) (w := w) (base := base) T
  have h_write_number := has_write_number (P := P) (w := w) (base := base) T
  exact def_has (m := b_write_numbers) 1 2 0 T.write_numbers sc_write_numbers rfl rfl (fun f cdv A outer s H E hr tk => (s_one (s_ret (e_call h_write_list (hr.mono (by decide)) tk (a_cons (e_lc (own := [("number", 1)]) false (pt1_ok 1) rfl sc_write_numbers.nd (i_any (e_var (i := 0))) (blkOk_by (own := [("number", 1)]) (N := ["numbers", "number"]) (sc := defScope (topS 13)) (by decide +kernel)) (fun _ _ _ _ _ => (pg_name (i := 1) sc_write_numbers.nd rfl (by first | exact Or.inl rfl | exact Or.inr rfl))) (fun _ _ _ _ _ => ts_nil) (fun _ _ _ _ _ => (e_frz (e_call h_write_number (hr.mono (by decide)) Am.takes0 (a_cons (e_var (i := 1)) a_nil))))) a_nil)))))
noncomputable def b_write_name : MS := (mRet (mCall m_write_numbers (mCons (mLc false [1] (pt1 1) (iStrM (mVar 0)) mYes (mCallB gOrd (mCons (mVar 1) mNil))) mNil)))
noncomputable def m_write_name : MF := mF 1 2 0 b_write_name
theorem has_write_name (T : Txt K mg) : Rw.Has P w K mg base (L2.CX P w) 4 "write_name" ["name"] (spM ⟨K, mg⟩ m_write_name) := by
  have h_write_numbers := has_write_numbers (P := P) (w := w) (base := base) T
  exact def_has (m := b_write_name) 1 2 0 T.write_name sc_write_name rfl rfl (fun f cdv A outer s H E hr tk => (s_one (s_ret (e_call h_write_numbers (hr.mono (by decide)) tk (a_cons (e_lc (own := [("character", 1)]) false (pt1_ok 1) rfl sc_write_name.nd (i_str (e_var (i := 0))) (blkOk_by (own := [("character", 1)]) (N := ["name", "character"]) (sc := defScope (topS 14)) (by decide +kernel)) (fun _ _ _ _ _ => (pg_name (i := 1) sc_write_name.nd rfl (by first | exact Or.inl rfl | exact Or.inr rfl))) (fun _ _ _ _ _ => ts_nil) (fun _ _ _ _ _ => (e_ord (a_cons (e_var (i := 1)) a_nil) T.b_ord))) a_nil)))))
noncomputable def b_write_path : MS := (mRet (mCall m_write_list (mCons (mLc false [1] (pt1 1) (iAnyM (mVar 0)) mYes (mCall m_write_name (mCons (mVar 1) mNil))) mNil)))
noncomputable def m_write_path : MF := mF 1 2 0 b_write_path
theorem has_write_path (T : Txt K mg) : Rw.Has P w K mg base (L2.CX P w) 5 "write_path" ["path"] (spM ⟨K, mg⟩ m_write_path) := by
  have h_write_list := has_write_list (P := P) (w := w) (base := base) T
  have h_write_name := has_write_name (P := P) (w := w) (base := base) T
  exact def_has (m := b_write_path) 1 2 0 T.write_path sc_write_path rfl rfl (fun f cdv A outer s H E hr tk => (s_one (s_ret (e_call h_write_list (hr.mono (by decide)) tk (a_cons (e_lc (own := [("name", 1)]) false (pt1_ok 1) rfl sc_write_path.nd (i_any (e_var (i := 0))) (blkOk_by (own := [("name", 1)]) (N := ["path", "name"]) (sc := defScope (topS 15)) (by decide +kernel)) (fun _ _ _ _ _ => (pg_name (i := 1) sc_write_path.nd rfl (by first | exact Or.inl rfl | exact Or.inr rfl))) (fun _ _ _ _ _ => ts_nil) (fun _ _ _ _ _ => (e_call h_write_name (hr.mono (by decide)) Am.takes0 (a_cons (e_var (i := 1)) a_nil)))) a_nil)))))
noncomputable def b_write_thing : MS := (mSeq (mIf (mTst (mBin (gIs false) (mVar 0) (mC .non)))
  (mRet (mList false (mCons (mC (.int 0)) mNil)))
  mSkip)
  (mSeq (mAsg (mVar 0) (kTup (kCons (kName 1) (kCons (kName 2) kNil)) 2))
  (mRet (mBin (gAdd false) (mBin (gAdd false) (mList false (mCons (mC (.int 1)) mNil)) (mFrz (mCall m_write_number (mCons (mVar 1) mNil)))) (mCall m_write_numbers (mCons (mVar 2) mNil))))))
noncomputable def m_write_thing : MF := mF 1 3 0 b_write_thing
theorem has_write_thing (T : Txt K mg) : Rw.Has P w K mg base (L2.CX P w) 4 "write_thing" ["thing"] (spM ⟨K, mg⟩ m_write_thing) := by
  have h_write_number := has_write_number (P := P) (w := w) (base := base) T
  have h_write_numbers := has_write_numbers (P := P) (w := w) (base := base) T
  exact def_has (m := b_write_thing) 1 3 0 T.write_thing sc_write_thing rfl rfl (fun f cdv A outer s H E hr tk => (s_cons (s_if (t_is (e_var (i := 0)) e_non)
  (s_one (s_ret (e_list false (a_cons e_int a_nil))))
  s_nil)
  (s_cons (s_asg (e_var (i := 0)) (g_tup rfl (gs_cons (g_name (j := 1) sc_write_thing.nd rfl (by first | exact Or.inl rfl | exact Or.inr rfl)) (gs_cons (g_name (j := 2) sc_write_thing.nd rfl (by first | exact Or.inl rfl | exact Or.inr rfl)) gs_nil))))
  (s_one (s_ret (e_add false (e_add false (e_list false (a_cons e_int a_nil)) (e_frz (e_call h_write_number (hr.mono (by decide)) tk (a_cons (e_var (i := 1)) a_nil)))) (e_call h_write_numbers (hr.mono (by decide)) tk (a_cons (e_var (i := 2)) a_nil))))))))
noncomputable def b_write_things : MS := (mRet (mCall m_write_list (mCons (mLc false [1] (pt1 1) (iAnyM (mCallB (gSortA false) (mCons (mVar 0) mNil))) mYes (mBin (gAdd false) (mCall m_write_path (mCons (mVar 1) mNil)) (mCall m_write_thing (mCons (mBin gIx (mVar 0) (mVar 1)) mNil)))) mNil)))
noncomputable def m_write_things : MF := mF 1 2 0 b_write_things
theorem has_write_things (T : Txt K mg) : Rw.Has P w K mg base (L2.CX P w) 6 "write_things" ["things"] (spM ⟨K, mg⟩ m_write_things) := by
  have h_write_list := has_write_list (P := P) (w := w) (base := base) T
  have h_write_path := has_write_path (P := P) (w := w) (base := base) T
  have h_write_thing := has_write_thing (P := P) (w := w) (base := base) T
  exact def_has (m := b_write_things) 1 2 0 T.write_things sc_write_things rfl rfl (fun f cdv A outer s H E hr tk => (s_one (s_ret (e_call h_write_list (hr.mono (by decide)) tk (a_cons (e_lc (own := [("path", 1)]) false (pt1_ok 1) rfl sc_write_things.nd (i_any (e_sortA false hr rfl (a_cons (e_var (i := 0)) a_nil) T.b_sorted)) (blkOk_by (own := [("path", 1)]) (N := ["things", "path"]) (sc := defScope (topS 17)) (by decide +kernel)) (fun _ _ _ _ _ => (pg_name (i := 1) sc_write_things.nd rfl (by first | exact Or.inl rfl | exact Or.inr rfl))) (fun _ _ _ _ _ => ts_nil) (fun _ _ _ _ _ => (e_add false (e_call h_write_path (hr.mono (by decide)) Am.takes0 (a_cons (e_var (i := 1)) a_nil)) (e_call h_write_thing (hr.mono (by decide)) Am.takes0 (a_cons (e_ix hr (e_var (i := 0)) (e_var (i := 1))) a_nil))))) a_nil)))))
noncomputable def b_write_record : MS := (mSeq (mSet 1 (mBin gIx (mVar 0) (mC (.int 0))))
  (mSeq (mSet 2 (mList false (mCons (mKIdx ["folder", "file", "put", "trim", "move", "drop", "snap", "forget", "back"] (mCons (mVar 1) mNil)) mNil)))
  (mSeq (mIf (mTst (mBin (gIn false) (mVar 1) (mTup (mCons (mC (.str "snap")) (mCons (mC (.str "forget")) (mCons (mC (.str "back")) mNil))))))
  (mRet (mBin (gAdd false) (mVar 2) (mCall m_write_name (mCons (mBin gIx (mVar 0) (mC (.int 1))) mNil))))
  mSkip)
  (mSeq (mSet 2 (mBin (gAdd false) (mVar 2) (mCall m_write_path (mCons (mBin gIx (mVar 0) (mC (.int 1))) mNil))))
  (mSeq (mIf (mTst (mBin (gEq false) (mVar 1) (mC (.str "put"))))
  (mSeq (mSet 3 (mLc false [4, 5] (pt2 4 5) (iAnyM (mBin gIx (mVar 0) (mC (.int 3)))) mYes (mBin (gAdd false) (mFrz (mCall m_write_number (mCons (mVar 4) mNil))) (mFrz (mCall m_write_number (mCons (mVar 5) mNil))))))
  (mRet (mBin (gAdd false) (mBin (gAdd false) (mVar 2) (mFrz (mCall m_write_number (mCons (mBin gIx (mVar 0) (mC (.int 2))) mNil)))) (mCall m_write_list (mCons (mVar 3) mNil)))))
  mSkip)
  (mSeq (mIf (mTst (mBin (gEq false) (mVar 1) (mC (.str "trim"))))
  (mRet (mBin (gAdd false) (mBin (gAdd false) (mVar 2) (mFrz (mCall m_write_number (mCons (mBin gIx (mVar 0) (mC (.int 2))) mNil)))) (mFrz (mCall m_write_number (mCons (mBin gIx (mVar 0) (mC (.int 3))) mNil)))))
  mSkip)
  (mSeq (mIf (mTst (mBin (gEq false) (mVar 1) (mC (.str "move"))))
  (mRet (mBin (gAdd false) (mVar 2) (mCall m_write_path (mCons (mBin gIx (mVar 0) (mC (.int 2))) mNil))))
  mSkip)
  (mRet (mVar 2)))))))))
noncomputable def m_write_record : MF := mF 1 6 0 b_write_record
theorem has_write_record (T : Txt K mg) : Rw.Has P w K mg base (L2.CX P w) 6 "write_record" ["record"] (spM ⟨K, mg⟩ m_write_record) := by
  have h_write_list := has_write_list (P := P) (w := w) (base := base) T
  have h_write_name := has_write_name (P := P) (w := w) (base := base) T
  have h_write_number := has_write_number (P := P) (w := w) (base := base) T
  have h_write_path := has_write_path (P := P) (w := w) (base := base) T
  exact def_has (m := b_write_record) 1 6 0 T.write_record sc_write_record rfl rfl (fun f cdv A outer s H E hr tk => (s_cons (s_set (j := 1) sc_write_record.nd rfl (by first | exact Or.inl rfl | exact Or.inr rfl) (e_ix hr (e_var (i := 0)) e_int))
  (s_cons (s_set (j := 2) sc_write_record.nd rfl (by first | exact Or.inl rfl | exact Or.inr rfl) (e_list false (a_cons (e_kidx T.i_WORDS (a_cons (e_var (i := 1)) a_nil)) a_nil)))
  (s_cons (s_if (t_in hr (e_var (i := 1)) (e_tup (a_cons e_str (a_cons e_str (a_cons e_str a_nil)))))
  (s_one (s_ret (e_add false (e_var (i := 2)) (e_call h_write_name (hr.mono (by decide)) tk (a_cons (e_ix hr (e_var (i := 0)) e_int) a_nil)))))
  s_nil)
  (s_cons (s_set (j := 2) sc_write_record.nd rfl (by first | exact Or.inl rfl | exact Or.inr rfl) (e_add false (e_var (i := 2)) (e_call h_write_path (hr.mono (by decide)) tk (a_cons (e_ix hr (e_var (i := 0)) e_int) a_nil))))
  (s_cons (s_if (t_eq hr (e_var (i := 1)) e_str)
  (s_cons (s_setLc (i := 3) (own := [("block", 4), ("stripe", 5)]) false (pt2_ok 4 5 (by decide)) rfl sc_write_record.nd rfl rfl (sw_true rfl rfl rfl (by decide +kernel)) (i_any (e_ix hr (e_var (i := 0)) e_int)) (blkOk_by (own := [("block", 4), ("stripe", 5)]) (N := ["record", "word", "data", "touched", "block", "stripe"]) (sc := defScope (topS 18)) (by decide +kernel)) (fun _ _ _ _ _ => (pg_tup rfl (pgs_cons (pg_name (i := 4) sc_write_record.nd rfl (by first | exact Or.inl rfl | exact Or.inr rfl)) (pgs_cons (pg_name (i := 5) sc_write_record.nd rfl (by first | exact Or.inl rfl | exact Or.inr rfl)) pgs_nil)))) (fun _ _ _ _ _ => ts_nil) (fun _ _ _ _ _ => (e_add false (e_frz (e_call h_write_number (hr.mono (by decide)) Am.takes0 (a_cons (e_var (i := 4)) a_nil))) (e_frz (e_call h_write_number (hr.mono (by decide)) Am.takes0 (a_cons (e_var (i := 5)) a_nil))))))
  (s_one (s_ret (e_add false (e_add false (e_var (i := 2)) (e_frz (e_call h_write_number (hr.mono (by decide)) tk (a_cons (e_ix hr (e_var (i := 0)) e_int) a_nil)))) (e_call h_write_list (hr.mono (by decide)) tk (a_cons (e_var (i := 3)) a_nil))))))
  s_nil)
  (s_cons (s_if (t_eq hr (e_var (i := 1)) e_str)
  (s_one (s_ret (e_add false (e_add false (e_var (i := 2)) (e_frz (e_call h_write_number (hr.mono (by decide)) tk (a_cons (e_ix hr (e_var (i := 0)) e_int) a_nil)))) (e_frz (e_call h_write_number (hr.mono (by decide)) tk (a_cons (e_ix hr (e_var (i := 0)) e_int) a_nil))))))
  s_nil)
  (s_cons (s_if (t_eq hr (e_var (i := 1)) e_str)
  (s_one (s_ret (e_add false (e_var (i := 2)) (e_call h_write_path (hr.mono (by decide)) tk (a_cons (e_ix hr (e_var (i := 0)) e_int) a_nil)))))
  s_nil)
  (s_one (s_ret (e_var (i := 2))))))))))))
noncomputable def b_write_group : MS := (mRet (mCall m_write_list (mCons (mLc false [1] (pt1 1) (iAnyM (mVar 0)) mYes (mCall m_write_record (mCons (mVar 1) mNil))) mNil)))
noncomputable def m_write_group : MF := mF 1 2 0 b_write_group
theorem has_write_group (T : Txt K mg) : Rw.Has P w K mg base (L2.CX P w) 7 "write_group" ["records"] (spM ⟨K, mg⟩ m_write_group) := by
  have h_write_list := has_write_list (P := P) (w := w) (base := base) T
  have h_write_record := has_write_record (P := P) (w := w) (base := base) T
  exact def_has (m := b_write_group) 1 2 0 T.write_group sc_write_group rfl rfl (fun f cdv A outer s H E hr tk => (s_one (s_ret (e_call h_write_list (hr.mono (by decide)) tk (a_cons (e_lc (own := [("record", 1)]) false (pt1_ok 1) rfl sc_write_group.nd (i_any (e_var (i := 0))) (blkOk_by (own := [("record", 1)]) (N := ["records", "record"]) (sc := defScope (topS 19)) (by decide +kernel)) (fun _ _ _ _ _ => (pg_name (i := 1) sc_write_group.nd rfl (by first | exact Or.inl rfl | exact Or.inr rfl))) (fun _ _ _ _ _ => ts_nil) (fun _ _ _ _ _ => (e_call h_write_record (hr.mono (by decide)) Am.takes0 (a_cons (e_var (i := 1)) a_nil)))) a_nil)))))
noncomputable def b_write_image : MS := (mSeq (mSet 2 (mLc false [3] (pt1 3) (iAnyM (mCallB (gSortA false) (mCons (mFld isF "snapshots" (mVar 1)) mNil))) mYes (mBin (gAdd false) (mCall m_write_name (mCons (mVar 3) mNil)) (mCall m_write_things (mCons (mBin gIx (mFld isF "snapshots" (mVar 1)) (mVar 3)) mNil)))))
  (mRet (mBin (gAdd false) (mBin (gAdd false) (mFrz (mCall m_write_number (mCons (mVar 0) mNil))) (mCall m_write_things (mCons (mFld isF "things" (mVar 1)) mNil))) (mCall m_write_list (mCons (mVar 2) mNil)))))
noncomputable def m_write_image : MF := mF 2 4 0 b_write_image
theorem has_write_image (T : Txt K mg) : Rw.Has P w K mg base (L2.CX P w) 7 "write_image" ["commits", "state"] (spM ⟨K, mg⟩ m_write_image) := by
  have h_write_list := has_write_list (P := P) (w := w) (base := base) T
  have h_write_name := has_write_name (P := P) (w := w) (base := base) T
  have h_write_number := has_write_number (P := P) (w := w) (base := base) T
  have h_write_things := has_write_things (P := P) (w := w) (base := base) T
  exact def_has (m := b_write_image) 2 4 0 T.write_image sc_write_image rfl rfl (fun f cdv A outer s H E hr tk => (s_cons (s_setLc (i := 2) (own := [("name", 3)]) false (pt1_ok 3) rfl sc_write_image.nd rfl rfl (sw_true rfl rfl rfl (by decide +kernel)) (i_any (e_sortA false hr rfl (a_cons (e_fld T.fl (e_var (i := 1))) a_nil) T.b_sorted)) (blkOk_by (own := [("name", 3)]) (N := ["commits", "state", "snapshots", "name"]) (sc := defScope (topS 20)) (by decide +kernel)) (fun _ _ _ _ _ => (pg_name (i := 3) sc_write_image.nd rfl (by first | exact Or.inl rfl | exact Or.inr rfl))) (fun _ _ _ _ _ => ts_nil) (fun _ _ _ _ _ => (e_add false (e_call h_write_name (hr.mono (by decide)) Am.takes0 (a_cons (e_var (i := 3)) a_nil)) (e_call h_write_things (hr.mono (by decide)) Am.takes0 (a_cons (e_ix hr (e_fld T.fl (e_var (i := 1))) (e_var (i := 3))) a_nil)))))
  (s_one (s_ret (e_add false (e_add false (e_frz (e_call h_write_number (hr.mono (by decide)) tk (a_cons (e_var (i := 0)) a_nil))) (e_call h_write_things (hr.mono (by decide)) tk (a_cons (e_fld T.fl (e_var (i := 1))) a_nil))) (e_call h_write_list (hr.mono (by decide)) tk (a_cons (e_var (i := 2)) a_nil)))))))
noncomputable def b_sorted_things : MS := (mRet (mCallB gTupOf (mCons (mLc false [1] (pt1 1) (iAnyM (mCallB (gSortA false) (mCons (mVar 0) mNil))) mYes (mTup (mCons (mVar 1) (mCons (mBin gIx (mVar 0) (mVar 1)) mNil)))) mNil)))
noncomputable def m_sorted_things : MF := mF 1 2 0 b_sorted_things
theorem has_sorted_things (T : Txt K mg) : Rw.Has P w K mg base (L2.CX P w) 1 "sorted_things" ["things"] (spM ⟨K, mg⟩ m_sorted_things) := by
  exact def_has (m := b_sorted_things) 1 2 0 T.sorted_things sc_sorted_things rfl rfl (fun f cdv A outer s H E hr tk => (s_one (s_ret (e_tuplec (a_cons (e_lc (own := [("path", 1)]) false (pt1_ok 1) rfl sc_sorted_things.nd (i_any (e_sortA false hr rfl (a_cons (e_var (i := 0)) a_nil) T.b_sorted)) (blkOk_by (own := [("path", 1)]) (N := ["things", "path"]) (sc := defScope (topS 5)) (by decide +kernel)) (fun _ _ _ _ _ => (pg_name (i := 1) sc_sorted_things.nd rfl (by first | exact Or.inl rfl | exact Or.inr rfl))) (fun _ _ _ _ _ => ts_nil) (fun _ _ _ _ _ => (e_tup (a_cons (e_var (i := 1)) (a_cons (e_ix hr (e_var (i := 0)) (e_var (i := 1))) a_nil))))) a_nil) T.b_tuple))))
end
end Lw
namespace Lw
open PySem PySem.Spec PyProof.Rows L2 Am
section
variable {P : Program} {w : World} {K : PySem.W.Frag} {mg : Str → Option Value} {base : Heap}
noncomputable def b_State___init__ : MS := (mSeq (mFS isF "stripes" (mVar 0) (mVar 1))
  (mSeq (mFS isF "block" (mVar 0) (mVar 2))
  (mSeq (mFS isF "things" (mVar 0) (mFrz mDNewT))
  (mFS isF "snapshots" (mVar 0) mDNewK))))
noncomputable def m_State___init__ : MF := mF 3 3 0 b_State___init__
theorem has_State___init__ (T : Txt K mg) : HasM P w K mg base (L2.CX P w) 1 "State" "__init__" ["self", "stripes", "block"] (spM ⟨K, mg⟩ m_State___init__) := by
  exact def_hasM (b := b_State___init__) 3 3 0 T.State___init__ sc_State___init__ rfl rfl (fun f cdv A outer s H E hr tk => (s_cons (s_fld T.fl (e_var (i := 0)) (e_var (i := 1)))
  (s_cons (s_fld T.fl (e_var (i := 0)) (e_var (i := 2)))
  (s_cons (s_fld T.fl (e_var (i := 0)) (e_frz e_dnewT))
  (s_one (s_fld T.fl (e_var (i := 0)) e_dnewK))))))
noncomputable def b_State_data : MS := (mSeq (mSet 1 (mLc false [2] (pt1 2) (iAnyM (mCallB (gSortA false) (mCons (mFld isF "snapshots" (mVar 0)) mNil))) mYes (mTup (mCons (mVar 2) (mCons (mCall m_sorted_things (mCons (mBin gIx (mFld isF "snapshots" (mVar 0)) (mVar 2)) mNil)) mNil)))))
  (mRet (mTup (mCons (mCall m_sorted_things (mCons (mFld isF "things" (mVar 0)) mNil)) (mCons (mCallB gTupOf (mCons (mVar 1) mNil)) mNil)))))
noncomputable def m_State_data : MF := mF 1 3 0 b_State_data
theorem has_State_data (T : Txt K mg) : HasM P w K mg base (L2.CX P w) 2 "State" "data" ["self"] (spM ⟨K, mg⟩ m_State_data) := by
  have h_sorted_things := has_sorted_things (P := P) (w := w) (base := base) T
  exact def_hasM (b := b_State_data) 1 3 0 T.State_data sc_State_data rfl rfl (fun f cdv A outer s H E hr tk => (s_cons (s_setLc (i := 1) (own := [("name", 2)]) false (pt1_ok 2) rfl sc_State_data.nd rfl rfl (sw_true rfl rfl rfl (by decide +kernel)) (i_any (e_sortA false hr rfl (a_cons (e_fld T.fl (e_var (i := 0))) a_nil) T.b_sorted)) (blkOk_by (own := [("name", 2)]) (N := ["self", "snapshots", "name"]) (sc := defScope (inClass (topS 6) 4)) (by decide +kernel)) (fun _ _ _ _ _ => (pg_name (i := 2) sc_State_data.nd rfl (by first | exact Or.inl rfl | exact Or.inr rfl))) (fun _ _ _ _ _ => ts_nil) (fun _ _ _ _ _ => (e_tup (a_cons (e_var (i := 2)) (a_cons (e_call h_sorted_things (hr.mono (by decide)) Am.takes0 (a_cons (e_ix hr (e_fld T.fl (e_var (i := 0))) (e_var (i := 2))) a_nil)) a_nil)))))
  (s_one (s_ret (e_tup (a_cons (e_call h_sorted_things (hr.mono (by decide)) tk (a_cons (e_fld T.fl (e_var (i := 0))) a_nil)) (a_cons (e_tuplec (a_cons (e_var (i := 1)) a_nil) T.b_tuple) a_nil)))))))
noncomputable def b_Reader___init__ : MS := (mSeq (mFS isF "data" (mVar 0) (mCallB (gListOf false) (mCons (mVar 1) mNil)))
  (mFS isF "at" (mVar 0) (mC (.int 0))))
noncomputable def m_Reader___init__ : MF := mF 2 2 0 b_Reader___init__
theorem has_Reader___init__ (T : Txt K mg) : HasM P w K mg base (L2.CX P w) 1 "Reader" "__init__" ["self", "data"] (spM ⟨K, mg⟩ m_Reader___init__) := by
  exact def_hasM (b := b_Reader___init__) 2 2 0 T.Reader___init__ sc_Reader___init__ rfl rfl (fun f cdv A outer s H E hr tk => (s_cons (s_fld T.fl (e_var (i := 0)) (e_listc false (a_cons (e_var (i := 1)) a_nil) T.b_list))
  (s_one (s_fld T.fl (e_var (i := 0)) e_int))))
noncomputable def b_Reader_read_byte : MS := (mSeq (mIf (mTst (mBin gGe (mFld isF "at" (mVar 0)) (mCallB gLen (mCons (mFld isF "data" (mVar 0)) mNil))))
  (mRaise "DamagedData")
  mSkip)
  (mSeq (mFA isF "at" (gI0 fun i j => .int (i + j)) (mVar 0) (mC (.int 1)))
  (mRet (mBin gIx (mFld isF "data" (mVar 0)) (mBin gSub (mFld isF "at" (mVar 0)) (mC (.int 1)))))))
noncomputable def m_Reader_read_byte : MF := mF 1 1 0 b_Reader_read_byte
theorem has_Reader_read_byte (T : Txt K mg) : HasM P w K mg base (L2.CX P w) 1 "Reader" "read_byte" ["self"] (spM ⟨K, mg⟩ m_Reader_read_byte) := by
  exact def_hasM (b := b_Reader_read_byte) 1 1 0 T.Reader_read_byte sc_Reader_read_byte rfl rfl (fun f cdv A outer s H E hr tk => (s_cons (s_if (t_ge (e_fld T.fl (e_var (i := 0))) (e_len (a_cons (e_fld T.fl (e_var (i := 0))) a_nil) T.b_len))
  (s_one (s_raise T.x_DamagedData rfl tk))
  s_nil)
  (s_cons (s_fldaug T.fl (e_var (i := 0)) e_int ip_add (gI0_ok fun _ _ _ => rfl))
  (s_one (s_ret (e_ix hr (e_fld T.fl (e_var (i := 0))) (e_sub (e_fld T.fl (e_var (i := 0))) e_int)))))))
noncomputable def b_Reader_read_choice : MS := (mSeq (mSet 2 (mMeth "Reader" "read_byte" m_Reader_read_byte (mVar 0) mNil))
  (mSeq (mIf (mTst (mBin gGe (mVar 2) (mVar 1)))
  (mRaise "DamagedData")
  mSkip)
  (mRet (mVar 2))))
noncomputable def m_Reader_read_choice : MF := mF 2 3 0 b_Reader_read_choice
theorem has_Reader_read_choice (T : Txt K mg) : HasM P w K mg base (L2.CX P w) 2 "Reader" "read_choice" ["self", "count"] (spM ⟨K, mg⟩ m_Reader_read_choice) := by
  have h_Reader_read_byte := has_Reader_read_byte (P := P) (w := w) (base := base) T
  exact def_hasM (b := b_Reader_read_choice) 2 3 0 T.Reader_read_choice sc_Reader_read_choice rfl rfl (fun f cdv A outer s H E hr tk => (s_cons (s_set (j := 2) sc_Reader_read_choice.nd rfl (by first | exact Or.inl rfl | exact Or.inr rfl) (e_meth0 h_Reader_read_byte (hr.mono (by decide)) tk (e_var (i := 0))))
  (s_cons (s_if (t_ge (e_var (i := 2)) (e_var (i := 1)))
  (s_one (s_raise T.x_DamagedData rfl tk))
  s_nil)
  (s_one (s_ret (e_var (i := 2)))))))
noncomputable def b_Reader_read_number : MS := (mSeq (mSet 1 (mC (.int 0)))
  (mSeq (mSet 2 (mC (.int 1)))
  (mSeq (mFor (iRng1M (mCons (mC (.int 10)) mNil)) (kName 3)
  (mSeq (mSet 4 (mMeth "Reader" "read_byte" m_Reader_read_byte (mVar 0) mNil))
  (mSeq (mAug 1 (gI0 fun i j => .int (i + j)) (mBin (gMul false) (mBin gMod (mVar 4) (mC (.int 128))) (mVar 2)))
  (mSeq (mIf (mTst (mBin gLt (mVar 4) (mC (.int 128))))
  (mSeq (mIf (mAnd (mTst (mBin (gEq false) (mVar 4) (mC (.int 0)))) (mTst (mBin gGt (mVar 3) (mC (.int 0)))))
  (mRaise "DamagedData")
  mSkip)
  (mRet (mVar 1)))
  mSkip)
  (mSet 2 (mBin (gMul false) (mVar 2) (mC (.int 128))))))))
  (mRaise "DamagedData"))))
noncomputable def m_Reader_read_number : MF := mF 1 5 0 b_Reader_read_number
theorem has_Reader_read_number (T : Txt K mg) : HasM P w K mg base (L2.CX P w) 2 "Reader" "read_number" ["self"] (spM ⟨K, mg⟩ m_Reader_read_number) := by
  have h_Reader_read_byte := has_Reader_read_byte (P := P) (w := w) (base := base) T
  exact def_hasM (b := b_Reader_read_number) 1 5 0 T.Reader_read_number sc_Reader_read_number rfl rfl (fun f cdv A outer s H E hr tk => (s_cons (s_set (j := 1) sc_Reader_read_number.nd rfl (by first | exact Or.inl rfl | exact Or.inr rfl) e_int)
  (s_cons (s_set (j := 2) sc_Reader_read_number.nd rfl (by first | exact Or.inl rfl | exact Or.inr rfl) e_int)
  (s_cons (s_for (passes_of rfl) rfl (i_range1 T.b_range (a_cons (e_glob T.c_NUMBER_BYTES) a_nil)) (g_name (j := 3) sc_Reader_read_number.nd rfl (by first | exact Or.inl rfl | exact Or.inr rfl))
  (s_cons (s_set (j := 4) sc_Reader_read_number.nd rfl (by first | exact Or.inl rfl | exact Or.inr rfl) (e_meth0 h_Reader_read_byte (hr.mono (by decide)) tk (e_var (i := 0))))
  (s_cons (s_aug (j := 1) sc_Reader_read_number.nd rfl (by first | exact Or.inl rfl | exact Or.inr rfl) (e_mul false (e_mod (e_var (i := 4)) e_int) (e_var (i := 2))) ip_add (gI0_ok fun _ _ _ => rfl))
  (s_cons (s_if (t_lt (e_var (i := 4)) e_int)
  (s_cons (s_if (t_bool (w_and (t_eq hr (e_var (i := 4)) e_int) (w_and1 (t_gt (e_var (i := 3)) e_int))))
  (s_one (s_raise T.x_DamagedData rfl tk))
  s_nil)
  (s_one (s_ret (e_var (i := 1)))))
  s_nil)
  (s_one (s_set (j := 2) sc_Reader_read_number.nd rfl (by first | exact Or.inl rfl | exact Or.inr rfl) (e_mul false (e_var (i := 2)) e_int)))))))
  (s_one (s_raise T.x_DamagedData rfl tk))))))
noncomputable def b_Reader_read_count : MS := (mSeq (mSet 1 (mMeth "Reader" "read_number" m_Reader_read_number (mVar 0) mNil))
  (mSeq (mIf (mTst (mBin gGt (mVar 1) (mBin gSub (mCallB gLen (mCons (mFld isF "data" (mVar 0)) mNil)) (mFld isF "at" (mVar 0)))))
  (mRaise "DamagedData")
  mSkip)
  (mRet (mVar 1))))
noncomputable def m_Reader_read_count : MF := mF 1 2 0 b_Reader_read_count
theorem has_Reader_read_count (T : Txt K mg) : HasM P w K mg base (L2.CX P w) 3 "Reader" "read_count" ["self"] (spM ⟨K, mg⟩ m_Reader_read_count) := by
  have h_Reader_read_number := has_Reader_read_number (P := P) (w := w) (base := base) T
  exact def_hasM (b := b_Reader_read_count) 1 2 0 T.Reader_read_count sc_Reader_read_count rfl rfl (fun f cdv A outer s H E hr tk => (s_cons (s_set (j := 1) sc_Reader_read_count.nd rfl (by first | exact Or.inl rfl | exact Or.inr rfl) (e_meth0 h_Reader_read_number (hr.mono (by decide)) tk (e_var (i := 0))))
  (s_cons (s_if (t_gt (e_var (i := 1)) (e_sub (e_len (a_cons (e_fld T.fl (e_var (i := 0))) a_nil) T.b_len) (e_fld T.fl (e_var (i := 0)))))
  (s_one (s_raise T.x_DamagedData rfl tk))
  s_nil)
  (s_one (s_ret (e_var (i := 1)))))))
noncomputable def b_Reader_read_numbers : MS := (mRet (mCallB gTupOf (mCons (mLc false [1] (pt1 1) (iRng1M (mCons (mMeth "Reader" "read_count" m_Reader_read_count (mVar 0) mNil) mNil)) mYes (mMeth "Reader" "read_number" m_Reader_read_number (mVar 0) mNil)) mNil)))
noncomputable def m_Reader_read_numbers : MF := mF 1 2 0 b_Reader_read_numbers
theorem has_Reader_read_numbers (T : Txt K mg) : HasM P w K mg base (L2.CX P w) 4 "Reader" "read_numbers" ["self"] (spM ⟨K, mg⟩ m_Reader_read_numbers) := by
  have h_Reader_read_count := has_Reader_read_count (P := P) (w := w) (base := base) T
  have h_Reader_read_number := has_Reader_read_number (P := P) (w := w) (base := base) T
  exact def_hasM (b := b_Reader_read_numbers) 1 2 0 T.Reader_read_numbers sc_Reader_read_numbers rfl rfl (fun f cdv A outer s H E hr tk => (s_one (s_ret (e_tuplec (a_cons (e_lc (own := [("_", 1)]) false (pt1_ok 1) rfl sc_Reader_read_numbers.nd (i_range1 T.b_range (a_cons (e_meth0 h_Reader_read_count (hr.mono (by decide)) tk (e_var (i := 0))) a_nil)) (blkOk_by (own := [("_", 1)]) (N := ["self", "_"]) (sc := defScope (inClass (topS 21) 5)) (by decide +kernel)) (fun _ _ _ _ _ => (pg_name (i := 1) sc_Reader_read_numbers.nd rfl (by first | exact Or.inl rfl | exact Or.inr rfl))) (fun _ _ _ _ _ => ts_nil) (fun _ _ _ _ _ => (e_meth0 h_Reader_read_number (hr.mono (by decide)) Am.takes0 (e_var (i := 0))))) a_nil) T.b_tuple))))
noncomputable def b_Reader_read_name : MS := (mSeq (mSet 1 (mC (.str "")))
  (mSeq (mFor (iRng1M (mCons (mMeth "Reader" "read_count" m_Reader_read_count (mVar 0) mNil) mNil)) (kName 2)
  (mSeq (mSet 3 (mMeth "Reader" "read_number" m_Reader_read_number (mVar 0) mNil))
  (mSeq (mSet 4 (mLc false [5] (pt1 5) (iStrM (mC (.str "abcdefghijklmnopqrstuvwxyz0123456789_"))) (mTst (mBin (gEq false) (mCallB gOrd (mCons (mVar 5) mNil)) (mVar 3))) (mVar 5)))
  (mSeq (mIf (mTst (mBin (gEq false) (mCallB gLen (mCons (mVar 4) mNil)) (mC (.int 0))))
  (mRaise "DamagedData")
  mSkip)
  (mSet 1 (mBin (gAdd false) (mVar 1) (mBin gIx (mVar 4) (mC (.int 0)))))))))
  (mRet (mVar 1))))
noncomputable def m_Reader_read_name : MF := mF 1 6 0 b_Reader_read_name
theorem has_Reader_read_name (T : Txt K mg) : HasM P w K mg base (L2.CX P w) 4 "Reader" "read_name" ["self"] (spM ⟨K, mg⟩ m_Reader_read_name) := by
  have h_Reader_read_count := has_Reader_read_count (P := P) (w := w) (base := base) T
  have h_Reader_read_number := has_Reader_read_number (P := P) (w := w) (base := base) T
  exact def_hasM (b := b_Reader_read_name) 1 6 0 T.Reader_read_name sc_Reader_read_name rfl rfl (fun f cdv A outer s H E hr tk => (s_cons (s_set (j := 1) sc_Reader_read_name.nd rfl (by first | exact Or.inl rfl | exact Or.inr rfl) e_str)
  (s_cons (s_for (passes_of rfl) rfl (i_range1 T.b_range (a_cons (e_meth0 h_Reader_read_count (hr.mono (by decide)) tk (e_var (i := 0))) a_nil)) (g_name (j := 2) sc_Reader_read_name.nd rfl (by first | exact Or.inl rfl | exact Or.inr rfl))
  (s_cons (s_set (j := 3) sc_Reader_read_name.nd rfl (by first | exact Or.inl rfl | exact Or.inr rfl) (e_meth0 h_Reader_read_number (hr.mono (by decide)) tk (e_var (i := 0))))
  (s_cons (s_setLc (i := 4) (own := [("letter", 5)]) false (pt1_ok 5) rfl sc_Reader_read_name.nd rfl rfl (sw_true rfl rfl rfl (by decide +kernel)) (i_str (e_glob T.c_LETTERS)) (blkOk_by (own := [("letter", 5)]) (N := ["self", "name", "_", "code", "letters", "letter"]) (sc := defScope (inClass (topS 21) 6)) (by decide +kernel)) (fun _ _ _ _ _ => (pg_name (i := 5) sc_Reader_read_name.nd rfl (by first | exact Or.inl rfl | exact Or.inr rfl))) (fun _ _ _ _ _ => (ts_one (t_eq hr (e_ord (a_cons (e_var (i := 5)) a_nil) T.b_ord) (e_var (i := 3))))) (fun _ _ _ _ _ => (e_var (i := 5))))
  (s_cons (s_if (t_eq hr (e_len (a_cons (e_var (i := 4)) a_nil) T.b_len) e_int)
  (s_one (s_raise T.x_DamagedData rfl tk))
  s_nil)
  (s_one (s_set (j := 1) sc_Reader_read_name.nd rfl (by first | exact Or.inl rfl | exact Or.inr rfl) (e_add false (e_var (i := 1)) (e_ix hr (e_var (i := 4)) e_int))))))))
  (s_one (s_ret (e_var (i := 1)))))))
noncomputable def b_Reader_read_path : MS := (mRet (mCallB gTupOf (mCons (mLc false [1] (pt1 1) (iRng1M (mCons (mMeth "Reader" "read_count" m_Reader_read_count (mVar 0) mNil) mNil)) mYes (mMeth "Reader" "read_name" m_Reader_read_name (mVar 0) mNil)) mNil)))
noncomputable def m_Reader_read_path : MF := mF 1 2 0 b_Reader_read_path
theorem has_Reader_read_path (T : Txt K mg) : HasM P w K mg base (L2.CX P w) 5 "Reader" "read_path" ["self"] (spM ⟨K, mg⟩ m_Reader_read_path) := by
  have h_Reader_read_count := has_Reader_read_count (P := P) (w := w) (base := base) T
  have h_Reader_read_name := has_Reader_read_name (P := P) (w := w) (base := base) T
  exact def_hasM (b := b_Reader_read_path) 1 2 0 T.Reader_read_path sc_Reader_read_path rfl rfl (fun f cdv A outer s H E hr tk => (s_one (s_ret (e_tuplec (a_cons (e_lc (own := [("_", 1)]) false (pt1_ok 1) rfl sc_Reader_read_path.nd (i_range1 T.b_range (a_cons (e_meth0 h_Reader_read_count (hr.mono (by decide)) tk (e_var (i := 0))) a_nil)) (blkOk_by (own := [("_", 1)]) (N := ["self", "_"]) (sc := defScope (inClass (topS 21) 7)) (by decide +kernel)) (fun _ _ _ _ _ => (pg_name (i := 1) sc_Reader_read_path.nd rfl (by first | exact Or.inl rfl | exact Or.inr rfl))) (fun _ _ _ _ _ => ts_nil) (fun _ _ _ _ _ => (e_meth0 h_Reader_read_name (hr.mono (by decide)) Am.takes0 (e_var (i := 0))))) a_nil) T.b_tuple))))
noncomputable def b_Reader_read_pair : MS := (mSeq (mSet 1 (mMeth "Reader" "read_number" m_Reader_read_number (mVar 0) mNil))
  (mRet (mTup (mCons (mVar 1) (mCons (mMeth "Reader" "read_number" m_Reader_read_number (mVar 0) mNil) mNil)))))
noncomputable def m_Reader_read_pair : MF := mF 1 2 0 b_Reader_read_pair
theorem has_Reader_read_pair (T : Txt K mg) : HasM P w K mg base (L2.CX P w) 3 "Reader" "read_pair" ["self"] (spM ⟨K, mg⟩ m_Reader_read_pair) := by
  have h_Reader_read_number := has_Reader_read_number (P := P) (w := w) (base := base) T
  exact def_hasM (b := b_Reader_read_pair) 1 2 0 T.Reader_read_pair sc_Reader_read_pair rfl rfl (fun f cdv A outer s H E hr tk => (s_cons (s_set (j := 1) sc_Reader_read_pair.nd rfl (by first | exact Or.inl rfl | exact Or.inr rfl) (e_meth0 h_Reader_read_number (hr.mono (by decide)) tk (e_var (i := 0))))
  (s_one (s_ret (e_tup (a_cons (e_var (i := 1)) (a_cons (e_meth0 h_Reader_read_number (hr.mono (by decide)) tk (e_var (i := 0))) a_nil)))))))
noncomputable def b_Reader_read_record : MS := (mSeq (mSet 1 (mBin gIx (mC (.kt [.str "folder", .str "file", .str "put", .str "trim", .str "move", .str "drop", .str "snap", .str "forget", .str "back"])) (mMeth "Reader" "read_choice" m_Reader_read_choice (mVar 0) (mCons (mCallB gLen (mCons (mC (.kt [.str "folder", .str "file", .str "put", .str "trim", .str "move", .str "drop", .str "snap", .str "forget", .str "back"])) mNil)) mNil))))
  (mSeq (mIf (mTst (mBin (gIn false) (mVar 1) (mTup (mCons (mC (.str "snap")) (mCons (mC (.str "forget")) (mCons (mC (.str "back")) mNil))))))
  (mRet (mTup (mCons (mVar 1) (mCons (mMeth "Reader" "read_name" m_Reader_read_name (mVar 0) mNil) mNil))))
  mSkip)
  (mSeq (mSet 2 (mMeth "Reader" "read_path" m_Reader_read_path (mVar 0) mNil))
  (mSeq (mIf (mTst (mBin (gEq false) (mVar 1) (mC (.str "put"))))
  (mSeq (mSet 3 (mMeth "Reader" "read_number" m_Reader_read_number (mVar 0) mNil))
  (mRet (mTup (mCons (mVar 1) (mCons (mVar 2) (mCons (mVar 3) (mCons (mCallB gTupOf (mCons (mLc false [4] (pt1 4) (iRng1M (mCons (mMeth "Reader" "read_count" m_Reader_read_count (mVar 0) mNil) mNil)) mYes (mMeth "Reader" "read_pair" m_Reader_read_pair (mVar 0) mNil)) mNil)) mNil)))))))
  mSkip)
  (mSeq (mIf (mTst (mBin (gEq false) (mVar 1) (mC (.str "trim"))))
  (mSeq (mSet 3 (mMeth "Reader" "read_number" m_Reader_read_number (mVar 0) mNil))
  (mRet (mTup (mCons (mVar 1) (mCons (mVar 2) (mCons (mVar 3) (mCons (mMeth "Reader" "read_number" m_Reader_read_number (mVar 0) mNil) mNil)))))))
  mSkip)
  (mSeq (mIf (mTst (mBin (gEq false) (mVar 1) (mC (.str "move"))))
  (mRet (mTup (mCons (mVar 1) (mCons (mVar 2) (mCons (mMeth "Reader" "read_path" m_Reader_read_path (mVar 0) mNil) mNil)))))
  mSkip)
  (mRet (mTup (mCons (mVar 1) (mCons (mVar 2) mNil))))))))))
noncomputable def m_Reader_read_record : MF := mF 1 5 0 b_Reader_read_record
theorem has_Reader_read_record (T : Txt K mg) : HasM P w K mg base (L2.CX P w) 6 "Reader" "read_record" ["self"] (spM ⟨K, mg⟩ m_Reader_read_record) := by
  have h_Reader_read_choice := has_Reader_read_choice (P := P) (w := w) (base := base) T
  have h_Reader_read_count := has_Reader_read_count (P := P) (w := w) (base := base) T
  have h_Reader_read_name := has_Reader_read_name (P := P) (w := w) (base := base) T
  have h_Reader_read_number := has_Reader_read_number (P := P) (w := w) (base := base) T
  have h_Reader_read_pair := has_Reader_read_pair (P := P) (w := w) (base := base) T
  have h_Reader_read_path := has_Reader_read_path (P := P) (w := w) (base := base) T
  exact def_hasM (b := b_Reader_read_record) 1 5 0 T.Reader_read_record sc_Reader_read_record rfl rfl (fun f cdv A outer s H E hr tk => (s_cons (s_set (j := 1) sc_Reader_read_record.nd rfl (by first | exact Or.inl rfl | exact Or.inr rfl) (e_ix hr (e_globT T.c_WORDS (by decide)) (e_meth h_Reader_read_choice (hr.mono (by decide)) tk (e_var (i := 0)) (a_cons (e_len (a_cons (e_globT T.c_WORDS (by decide)) a_nil) T.b_len) a_nil))))
  (s_cons (s_if (t_in hr (e_var (i := 1)) (e_tup (a_cons e_str (a_cons e_str (a_cons e_str a_nil)))))
  (s_one (s_ret (e_tup (a_cons (e_var (i := 1)) (a_cons (e_meth0 h_Reader_read_name (hr.mono (by decide)) tk (e_var (i := 0))) a_nil)))))
  s_nil)
  (s_cons (s_set (j := 2) sc_Reader_read_record.nd rfl (by first | exact Or.inl rfl | exact Or.inr rfl) (e_meth0 h_Reader_read_path (hr.mono (by decide)) tk (e_var (i := 0))))
  (s_cons (s_if (t_eq hr (e_var (i := 1)) e_str)
  (s_cons (s_set (j := 3) sc_Reader_read_record.nd rfl (by first | exact Or.inl rfl | exact Or.inr rfl) (e_meth0 h_Reader_read_number (hr.mono (by decide)) tk (e_var (i := 0))))
  (s_one (s_ret (e_tup (a_cons (e_var (i := 1)) (a_cons (e_var (i := 2)) (a_cons (e_var (i := 3)) (a_cons (e_tuplec (a_cons (e_lc (own := [("_", 4)]) false (pt1_ok 4) rfl sc_Reader_read_record.nd (i_range1 T.b_range (a_cons (e_meth0 h_Reader_read_count (hr.mono (by decide)) tk (e_var (i := 0))) a_nil)) (blkOk_by (own := [("_", 4)]) (N := ["self", "word", "path", "length", "_"]) (sc := defScope (inClass (topS 21) 9)) (by decide +kernel)) (fun _ _ _ _ _ => (pg_name (i := 4) sc_Reader_read_record.nd rfl (by first | exact Or.inl rfl | exact Or.inr rfl))) (fun _ _ _ _ _ => ts_nil) (fun _ _ _ _ _ => (e_meth0 h_Reader_read_pair (hr.mono (by decide)) Am.takes0 (e_var (i := 0))))) a_nil) T.b_tuple) a_nil))))))))
  s_nil)
  (s_cons (s_if (t_eq hr (e_var (i := 1)) e_str)
  (s_cons (s_set (j := 3) sc_Reader_read_record.nd rfl (by first | exact Or.inl rfl | exact Or.inr rfl) (e_meth0 h_Reader_read_number (hr.mono (by decide)) tk (e_var (i := 0))))
  (s_one (s_ret (e_tup (a_cons (e_var (i := 1)) (a_cons (e_var (i := 2)) (a_cons (e_var (i := 3)) (a_cons (e_meth0 h_Reader_read_number (hr.mono (by decide)) tk (e_var (i := 0))) a_nil))))))))
  s_nil)
  (s_cons (s_if (t_eq hr (e_var (i := 1)) e_str)
  (s_one (s_ret (e_tup (a_cons (e_var (i := 1)) (a_cons (e_var (i := 2)) (a_cons (e_meth0 h_Reader_read_path (hr.mono (by decide)) tk (e_var (i := 0))) a_nil))))))
  s_nil)
  (s_one (s_ret (e_tup (a_cons (e_var (i := 1)) (a_cons (e_var (i := 2)) a_nil))))))))))))
noncomputable def b_Reader_read_group : MS := (mRet (mLc false [1] (pt1 1) (iRng1M (mCons (mMeth "Reader" "read_count" m_Reader_read_count (mVar 0) mNil) mNil)) mYes (mMeth "Reader" "read_record" m_Reader_read_record (mVar 0) mNil)))
noncomputable def m_Reader_read_group : MF := mF 1 2 0 b_Reader_read_group
theorem has_Reader_read_group (T : Txt K mg) : HasM P w K mg base (L2.CX P w) 7 "Reader" "read_group" ["self"] (spM ⟨K, mg⟩ m_Reader_read_group) := by
  have h_Reader_read_count := has_Reader_read_count (P := P) (w := w) (base := base) T
  have h_Reader_read_record := has_Reader_read_record (P := P) (w := w) (base := base) T
  exact def_hasM (b := b_Reader_read_group) 1 2 0 T.Reader_read_group sc_Reader_read_group rfl rfl (fun f cdv A outer s H E hr tk => (s_one (s_ret (e_lc (own := [("_", 1)]) false (pt1_ok 1) rfl sc_Reader_read_group.nd (i_range1 T.b_range (a_cons (e_meth0 h_Reader_read_count (hr.mono (by decide)) tk (e_var (i := 0))) a_nil)) (blkOk_by (own := [("_", 1)]) (N := ["self", "_"]) (sc := defScope (inClass (topS 21) 10)) (by decide +kernel)) (fun _ _ _ _ _ => (pg_name (i := 1) sc_Reader_read_group.nd rfl (by first | exact Or.inl rfl | exact Or.inr rfl))) (fun _ _ _ _ _ => ts_nil) (fun _ _ _ _ _ => (e_meth0 h_Reader_read_record (hr.mono (by decide)) Am.takes0 (e_var (i := 0))))))))
noncomputable def b_Reader_read_thing : MS := (mSeq (mIf (mTst (mBin (gEq false) (mMeth "Reader" "read_choice" m_Reader_read_choice (mVar 0) (mCons (mC (.int 2)) mNil)) (mC (.int 0))))
  (mRet (mC .non))
  mSkip)
  (mSeq (mSet 1 (mMeth "Reader" "read_number" m_Reader_read_number (mVar 0) mNil))
  (mRet (mTup (mCons (mVar 1) (mCons (mMeth "Reader" "read_numbers" m_Reader_read_numbers (mVar 0) mNil) mNil))))))
noncomputable def m_Reader_read_thing : MF := mF 1 2 0 b_Reader_read_thing
theorem has_Reader_read_thing (T : Txt K mg) : HasM P w K mg base (L2.CX P w) 5 "Reader" "read_thing" ["self"] (spM ⟨K, mg⟩ m_Reader_read_thing) := by
  have h_Reader_read_choice := has_Reader_read_choice (P := P) (w := w) (base := base) T
  have h_Reader_read_number := has_Reader_read_number (P := P) (w := w) (base := base) T
  have h_Reader_read_numbers := has_Reader_read_numbers (P := P) (w := w) (base := base) T
  exact def_hasM (b := b_Reader_read_thing) 1 2 0 T.Reader_read_thing sc_Reader_read_thing rfl rfl (fun f cdv A outer s H E hr tk => (s_cons (s_if (t_eq hr (e_meth h_Reader_read_choice (hr.mono (by decide)) tk (e_var (i := 0)) (a_cons e_int a_nil)) e_int)
  (s_one (s_ret e_non))
  s_nil)
  (s_cons (s_set (j := 1) sc_Reader_read_thing.nd rfl (by first | exact Or.inl rfl | exact Or.inr rfl) (e_meth0 h_Reader_read_number (hr.mono (by decide)) tk (e_var (i := 0))))
  (s_one (s_ret (e_tup (a_cons (e_var (i := 1)) (a_cons (e_meth0 h_Reader_read_numbers (hr.mono (by decide)) tk (e_var (i := 0))) a_nil))))))))
noncomputable def b_Reader_read_things : MS := (mSeq (mSet 1 mDNewT)
  (mSeq (mFor (iRng1M (mCons (mMeth "Reader" "read_count" m_Reader_read_count (mVar 0) mNil) mNil)) (kName 2)
  (mSeq (mSet 3 (mMeth "Reader" "read_path" m_Reader_read_path (mVar 0) mNil))
  (mAsg (mMeth "Reader" "read_thing" m_Reader_read_thing (mVar 0) mNil) (kSub (mVar 1) (mVar 3)))))
  (mRet (mVar 1))))
noncomputable def m_Reader_read_things : MF := mF 1 4 2 b_Reader_read_things
theorem has_Reader_read_things (T : Txt K mg) : HasM P w K mg base (L2.CX P w) 6 "Reader" "read_things" ["self"] (spM ⟨K, mg⟩ m_Reader_read_things) := by
  have h_Reader_read_count := has_Reader_read_count (P := P) (w := w) (base := base) T
  have h_Reader_read_path := has_Reader_read_path (P := P) (w := w) (base := base) T
  have h_Reader_read_thing := has_Reader_read_thing (P := P) (w := w) (base := base) T
  exact def_hasM (b := b_Reader_read_things) 1 4 2 T.Reader_read_things sc_Reader_read_things rfl rfl (fun f cdv A outer s H E hr tk => (s_cons (s_set (j := 1) sc_Reader_read_things.nd rfl (by first | exact Or.inl rfl | exact Or.inr rfl) e_dnewT)
  (s_cons (s_for (passes_of rfl) rfl (i_range1 T.b_range (a_cons (e_meth0 h_Reader_read_count (hr.mono (by decide)) tk (e_var (i := 0))) a_nil)) (g_name (j := 2) sc_Reader_read_things.nd rfl (by first | exact Or.inl rfl | exact Or.inr rfl))
  (s_cons (s_set (j := 3) sc_Reader_read_things.nd rfl (by first | exact Or.inl rfl | exact Or.inr rfl) (e_meth0 h_Reader_read_path (hr.mono (by decide)) tk (e_var (i := 0))))
  (s_one (s_asg (e_meth0 h_Reader_read_thing (hr.mono (by decide)) tk (e_var (i := 0))) (g_sub (W := fun cls d _ H => E cls d H) hr (e_var (i := 1)) (e_var (i := 3)))))))
  (s_one (s_ret (e_var (i := 1)))))))
noncomputable def b_Reader_read_image : MS := (mSeq (mSet 3 (mMeth "Reader" "read_number" m_Reader_read_number (mVar 0) mNil))
  (mSeq (mSet 4 (mMake "State" m_State___init__ (mCons (mVar 1) (mCons (mVar 2) mNil))))
  (mSeq (mFS isF "things" (mVar 4) (mMeth "Reader" "read_things" m_Reader_read_things (mVar 0) mNil))
  (mSeq (mFor (iRng1M (mCons (mMeth "Reader" "read_count" m_Reader_read_count (mVar 0) mNil) mNil)) (kName 5)
  (mSeq (mSet 6 (mMeth "Reader" "read_name" m_Reader_read_name (mVar 0) mNil))
  (mAsg (mMeth "Reader" "read_things" m_Reader_read_things (mVar 0) mNil) (kSub (mFld isF "snapshots" (mVar 4)) (mVar 6)))))
  (mRet (mTup (mCons (mVar 3) (mCons (mFrz2 (mVar 4)) mNil))))))))
noncomputable def m_Reader_read_image : MF := mF 3 7 0 b_Reader_read_image
theorem has_Reader_read_image (T : Txt K mg) : HasM P w K mg base (L2.CX P w) 7 "Reader" "read_image" ["self", "stripes", "block"] (spM ⟨K, mg⟩ m_Reader_read_image) := by
  have h_Reader_read_count := has_Reader_read_count (P := P) (w := w) (base := base) T
  have h_Reader_read_name := has_Reader_read_name (P := P) (w := w) (base := base) T
  have h_Reader_read_number := has_Reader_read_number (P := P) (w := w) (base := base) T
  have h_Reader_read_things := has_Reader_read_things (P := P) (w := w) (base := base) T
  have h_State___init__ := has_State___init__ (P := P) (w := w) (base := base) T
  exact def_hasM (b := b_Reader_read_image) 3 7 0 T.Reader_read_image sc_Reader_read_image rfl rfl (fun f cdv A outer s H E hr tk => (s_cons (s_set (j := 3) sc_Reader_read_image.nd rfl (by first | exact Or.inl rfl | exact Or.inr rfl) (e_meth0 h_Reader_read_number (hr.mono (by decide)) tk (e_var (i := 0))))
  (s_cons (s_set (j := 4) sc_Reader_read_image.nd rfl (by first | exact Or.inl rfl | exact Or.inr rfl) (e_make h_State___init__ T.mk_State (hr.mono (by decide)) tk (a_cons (e_var (i := 1)) (a_cons (e_var (i := 2)) a_nil))))
  (s_cons (s_fld T.fl (e_var (i := 4)) (e_meth0 h_Reader_read_things (hr.mono (by decide)) tk (e_var (i := 0))))
  (s_cons (s_for (passes_of rfl) rfl (i_range1 T.b_range (a_cons (e_meth0 h_Reader_read_count (hr.mono (by decide)) tk (e_var (i := 0))) a_nil)) (g_name (j := 5) sc_Reader_read_image.nd rfl (by first | exact Or.inl rfl | exact Or.inr rfl))
  (s_cons (s_set (j := 6) sc_Reader_read_image.nd rfl (by first | exact Or.inl rfl | exact Or.inr rfl) (e_meth0 h_Reader_read_name (hr.mono (by decide)) tk (e_var (i := 0))))
  (s_one (s_asg (e_meth0 h_Reader_read_things (hr.mono (by decide)) tk (e_var (i := 0))) (g_sub (W := fun cls d _ H => E cls d H) hr (e_fld T.fl (e_var (i := 4))) (e_var (i := 6)))))))
  (s_one (s_ret (e_tup (a_cons (e_var (i := 3)) (a_cons (e_frz2 (e_var (i := 4))) a_nil))))))))))
noncomputable def b_Reader_end : MS := (mIf (mTst (mBin gLt (mFld isF "at" (mVar 0)) (mCallB gLen (mCons (mFld isF "data" (mVar 0)) mNil))))
  (mRaise "DamagedData")
  mSkip)
noncomputable def m_Reader_end : MF := mF 1 1 0 b_Reader_end
theorem has_Reader_end (T : Txt K mg) : HasM P w K mg base (L2.CX P w) 1 "Reader" "end" ["self"] (spM ⟨K, mg⟩ m_Reader_end) := by
  exact def_hasM (b := b_Reader_end) 1 1 0 T.Reader_end sc_Reader_end rfl rfl (fun f cdv A outer s H E hr tk => (s_one (s_if (t_lt (e_fld T.fl (e_var (i := 0))) (e_len (a_cons (e_fld T.fl (e_var (i := 0))) a_nil) T.b_len))
  (s_one (s_raise T.x_DamagedData rfl tk))
  s_nil)))
end
end Lw
namespace Lw
open PySem PySem.Spec PyProof.Rows L2 Am
section
variable {P : Program} {w : World} {K : PySem.W.Frag} {mg : Str → Option Value} {base : Heap}
noncomputable def b__law_next : MS := (mSeq (mIf (mAnd (mTst (mBin (gEq false) (mBin gIx (mVar 0) (mC (.int 2))) (mC (.int 0)))) (mTst (mBin gLt (mBin gIx (mVar 0) (mC (.int 1))) (mCallB gLen (mCons (mBin gIx (mVar 0) (mC (.int 0))) mNil)))))
  (mSeq (mSet 2 (mBin gIx (mBin gIx (mVar 0) (mC (.int 0))) (mBin gIx (mVar 0) (mC (.int 1)))))
  (mSeq (mAugS (gI0 fun i j => .int (i + j)) (mVar 0) (mC (.int 1)) (mC (.int 1)))
  (mIf (mTst (mBin gGe (mVar 2) (mBin gPow (mC (.int 10)) (mC (.int 18)))))
  (mAsg (mVar 2) (kSub (mVar 0) (mC (.int 2))))
  (mAsg (mBin gMod (mCallB gInt (mCons (mBin (gAdd false) (mBin (gAdd false) (mBin (gMul false) (mBin gIx (mVar 0) (mC (.int 3))) (mC (.int 48271))) (mBin gMod (mCallB gInt (mCons (mVar 2) mNil)) (mC (.int 2147483647)))) (mC (.int 7))) mNil)) (mC (.int 2147483647))) (kSub (mVar 0) (mC (.int 3)))))))
  mSkip)
  (mSeq (mIf (mTst (mBin gGt (mBin gIx (mVar 0) (mC (.int 2))) (mC (.int 0))))
  (mSeq (mSet 3 (mBin gMod (mCallB gInt (mCons (mBin gIx (mVar 0) (mC (.int 2))) mNil)) (mVar 1)))
  (mSeq (mAsg (mBin gFdiv (mBin gIx (mVar 0) (mC (.int 2))) (mVar 1)) (kSub (mVar 0) (mC (.int 2))))
  (mRet (mVar 3))))
  mSkip)
  (mSeq (mAsg (mBin gMod (mCallB gInt (mCons (mBin (gAdd false) (mBin (gMul false) (mBin gIx (mVar 0) (mC (.int 3))) (mC (.int 69621))) (mC (.int 12345))) mNil)) (mC (.int 2147483647))) (kSub (mVar 0) (mC (.int 3))))
  (mRet (mBin gMod (mCallB gInt (mCons (mBin gFdiv (mBin gIx (mVar 0) (mC (.int 3))) (mC (.int 7))) mNil)) (mVar 1))))))
noncomputable def m__law_next : MF := mF 2 4 0 b__law_next
theorem has__law_next (T : Txt K mg) : Rw.Has P w K mg base (L2.CX P w) 1 "_law_next" ["_law_state", "_law_limit"] (spM ⟨K, mg⟩ m__law_next) := by
  exact def_has (m := b__law_next) 2 4 0 T._law_next sc__law_next rfl rfl (fun f cdv A outer s H E hr tk => (s_cons (s_if (t_bool (w_and (t_eq hr (e_ix hr (e_var (i := 0)) e_int) e_int) (w_and1 (t_lt (e_ix hr (e_var (i := 0)) e_int) (e_len (a_cons (e_ix hr (e_var (i := 0)) e_int) a_nil) T.b_len)))))
  (s_cons (s_set (j := 2) sc__law_next.nd rfl (by first | exact Or.inl rfl | exact Or.inr rfl) (e_ix hr (e_ix hr (e_var (i := 0)) e_int) (e_ix hr (e_var (i := 0)) e_int)))
  (s_cons (s_augS hr (e_var (i := 0)) e_int e_int ip_add (gI0_ok fun _ _ _ => rfl) ⟨rfl, rfl⟩)
  (s_one (s_if (t_ge (e_var (i := 2)) (e_pow e_int e_int))
  (s_one (s_asg (e_var (i := 2)) (g_sub (W := fun cls d _ H => E cls d H) hr (e_var (i := 0)) e_int)))
  (s_one (s_asg (e_mod (e_intc (a_cons (e_add false (e_add false (e_mul false (e_ix hr (e_var (i := 0)) e_int) e_int) (e_mod (e_intc (a_cons (e_var (i := 2)) a_nil) T.b_int) e_int)) e_int) a_nil) T.b_int) e_int) (g_sub (W := fun cls d _ H => E cls d H) hr (e_var (i := 0)) e_int)))))))
  s_nil)
  (s_cons (s_if (t_gt (e_ix hr (e_var (i := 0)) e_int) e_int)
  (s_cons (s_set (j := 3) sc__law_next.nd rfl (by first | exact Or.inl rfl | exact Or.inr rfl) (e_mod (e_intc (a_cons (e_ix hr (e_var (i := 0)) e_int) a_nil) T.b_int) (e_var (i := 1))))
  (s_cons (s_asg (e_fdiv (e_ix hr (e_var (i := 0)) e_int) (e_var (i := 1))) (g_sub (W := fun cls d _ H => E cls d H) hr (e_var (i := 0)) e_int))
  (s_one (s_ret (e_var (i := 3))))))
  s_nil)
  (s_cons (s_asg (e_mod (e_intc (a_cons (e_add false (e_mul false (e_ix hr (e_var (i := 0)) e_int) e_int) e_int) a_nil) T.b_int) e_int) (g_sub (W := fun cls d _ H => E cls d H) hr (e_var (i := 0)) e_int))
  (s_one (s_ret (e_mod (e_intc (a_cons (e_fdiv (e_ix hr (e_var (i := 0)) e_int) e_int) a_nil) T.b_int) (e_var (i := 1)))))))))
noncomputable def b__law_same (m__law_same : MF) : MS := (mSeq (mIf (mTst (mBin (gIs false) (mVar 1) (mC .non)))
  (mRet (mBin (gIs false) (mVar 0) (mC .non)))
  mSkip)
  (mSeq (mIf (mTru (mUn (gIsi "bool") (mVar 1)))
  (mRet (mAndV (mUn (gIsi "bool") (mVar 0)) (mBin (gEq false) (mVar 0) (mVar 1))))
  mSkip)
  (mSeq (mIf (mTru (mUn (gIsi "int") (mVar 1)))
  (mRet (mAndV (mUn (gIsi "int") (mVar 0)) (mAndV (mNotV (mUn (gIsi "bool") (mVar 0))) (mBin (gEq false) (mVar 0) (mVar 1)))))
  mSkip)
  (mSeq (mIf (mTru (mUn (gIsi "str") (mVar 1)))
  (mRet (mAndV (mUn (gIsi "str") (mVar 0)) (mBin (gEq false) (mVar 0) (mVar 1))))
  mSkip)
  (mSeq (mIf (mAnd (mTru (mUn (gIsi "tuple") (mVar 1))) (mNot (mTru (mUn (gIsi "tuple") (mVar 0)))))
  (mRet (mC (.bl false)))
  mSkip)
  (mSeq (mIf (mAnd (mTru (mUn (gIsi "list") (mVar 1))) (mNot (mTru (mUn (gIsi "list") (mVar 0)))))
  (mRet (mC (.bl false)))
  mSkip)
  (mSeq (mIf (mTst (mBin (gEq true) (mCallB gLen (mCons (mVar 0) mNil)) (mCallB gLen (mCons (mVar 1) mNil))))
  (mRet (mC (.bl false)))
  mSkip)
  (mSeq (mFor (iRng1M (mCons (mCallB gLen (mCons (mVar 1) mNil)) mNil)) (kName 2)
  (mIf (mNot (mTru (mCall m__law_same (mCons (mBin gIx (mVar 0) (mVar 2)) (mCons (mBin gIx (mVar 1) (mVar 2)) mNil)))))
  (mRet (mC (.bl false)))
  mSkip))
  (mRet (mC (.bl true)))))))))))
noncomputable def r__law_same : Nat → MF
  | 0 => fun _ _ => .no
  | n + 1 => mF 2 3 0 (b__law_same (r__law_same n))
noncomputable def m__law_same : MF := r__law_same 8
theorem hasr__law_same (T : Txt K mg) : ∀ n, Rw.Has P w K mg base (L2.CX P w) n "_law_same" ["_law_actual", "_law_expected"] (spM ⟨K, mg⟩ (r__law_same n))
  | 0 => (Rw.Def.never T._law_same).imp fun _ _ _ _ ⟨_, _, _, _, _, h⟩ => h
  | n + 1 => by
    have h__law_same := hasr__law_same T n
    exact def_has (m := b__law_same (r__law_same n)) 2 3 0 T._law_same sc__law_same rfl rfl (fun f cdv A outer s H E hr tk => (s_cons (s_if (t_is (e_var (i := 1)) e_non)
  (s_one (s_ret (e_is (e_var (i := 0)) e_non)))
  s_nil)
  (s_cons (s_if (t_tru (e_isi (e_var (i := 1)) T.b_isinstance T.b_bool boot_bool))
  (s_one (s_ret (e_and (e_isi (e_var (i := 0)) T.b_isinstance T.b_bool boot_bool) (e_one (e_eq hr (e_var (i := 0)) (e_var (i := 1)))))))
  s_nil)
  (s_cons (s_if (t_tru (e_isi (e_var (i := 1)) T.b_isinstance T.b_int boot_int))
  (s_one (s_ret (e_and (e_isi (e_var (i := 0)) T.b_isinstance T.b_int boot_int) (e_and (e_not (e_isi (e_var (i := 0)) T.b_isinstance T.b_bool boot_bool)) (e_one (e_eq hr (e_var (i := 0)) (e_var (i := 1))))))))
  s_nil)
  (s_cons (s_if (t_tru (e_isi (e_var (i := 1)) T.b_isinstance T.b_str boot_str))
  (s_one (s_ret (e_and (e_isi (e_var (i := 0)) T.b_isinstance T.b_str boot_str) (e_one (e_eq hr (e_var (i := 0)) (e_var (i := 1)))))))
  s_nil)
  (s_cons (s_if (t_bool (w_and (t_tru (e_isi (e_var (i := 1)) T.b_isinstance T.b_tuple boot_tuple)) (w_and1 (t_not (t_tru (e_isi (e_var (i := 0)) T.b_isinstance T.b_tuple boot_tuple))))))
  (s_one (s_ret e_bl))
  s_nil)
  (s_cons (s_if (t_bool (w_and (t_tru (e_isi (e_var (i := 1)) T.b_isinstance T.b_list boot_list)) (w_and1 (t_not (t_tru (e_isi (e_var (i := 0)) T.b_isinstance T.b_list boot_list))))))
  (s_one (s_ret e_bl))
  s_nil)
  (s_cons (s_if (t_ne hr (e_len (a_cons (e_var (i := 0)) a_nil) T.b_len) (e_len (a_cons (e_var (i := 1)) a_nil) T.b_len))
  (s_one (s_ret e_bl))
  s_nil)
  (s_cons (s_for (passes_of rfl) rfl (i_range1 T.b_range (a_cons (e_len (a_cons (e_var (i := 1)) a_nil) T.b_len) a_nil)) (g_name (j := 2) sc__law_same.nd rfl (by first | exact Or.inl rfl | exact Or.inr rfl))
  (s_one (s_if (t_not (t_tru (e_call h__law_same hr tk (a_cons (e_ix hr (e_var (i := 0)) (e_var (i := 2))) (a_cons (e_ix hr (e_var (i := 1)) (e_var (i := 2))) a_nil)))))
  (s_one (s_ret e_bl))
  s_nil)))
  (s_one (s_ret e_bl)))))))))))
theorem has__law_same (T : Txt K mg) : Rw.Has P w K mg base (L2.CX P w) 8 "_law_same" ["_law_actual", "_law_expected"] (spM ⟨K, mg⟩ m__law_same) := hasr__law_same T 8
noncomputable def b__law_number : MS := (mSeq (mSet 1 (mList true mNil))
  (mSeq (mFor (iRng1M (mCons (mC (.int 12)) mNil)) (kName 2)
  (mIf (mTst (mBin gGt (mVar 0) (mC (.int 127))))
  (mSeq (mDo (mMethL gAppend (mVar 1) (mCons (mBin (gAdd false) (mC (.int 128)) (mBin gMod (mVar 0) (mC (.int 128)))) mNil)))
  (mSet 0 (mBin gFdiv (mVar 0) (mC (.int 128)))))
  mSkip))
  (mRet (mBin (gAdd false) (mVar 1) (mList false (mCons (mVar 0) mNil))))))
noncomputable def m__law_number : MF := mF 1 3 2 b__law_number
theorem has__law_number (T : Txt K mg) : Rw.Has P w K mg base (L2.CX P w) 1 "_law_number" ["_law_number_here"] (spM ⟨K, mg⟩ m__law_number) := by
  exact def_has (m := b__law_number) 1 3 2 T._law_number sc__law_number rfl rfl (fun f cdv A outer s H E hr tk => (s_cons (s_set (j := 1) sc__law_number.nd rfl (by first | exact Or.inl rfl | exact Or.inr rfl) (e_list true a_nil))
  (s_cons (s_for (passes_of rfl) rfl (i_range1 T.b_range (a_cons e_int a_nil)) (g_name (j := 2) sc__law_number.nd rfl (by first | exact Or.inl rfl | exact Or.inr rfl))
  (s_one (s_if (t_gt (e_var (i := 0)) e_int)
  (s_cons (s_do (e_methL PySem.F.slot_list_append PySem.F.type_list_append mt_append gAppend_ok (e_var (i := 1)) (a_cons (e_add false e_int (e_mod (e_var (i := 0)) e_int)) a_nil) ⟨rfl, rfl⟩))
  (s_one (s_set (j := 0) sc__law_number.nd rfl (by first | exact Or.inl rfl | exact Or.inr rfl) (e_fdiv (e_var (i := 0)) e_int))))
  s_nil)))
  (s_one (s_ret (e_add false (e_var (i := 1)) (e_list false (a_cons (e_var (i := 0)) a_nil))))))))
noncomputable def b__law_listed : MS := (mSeq (mSet 1 (mCall m__law_number (mCons (mCallB gLen (mCons (mVar 0) mNil)) mNil)))
  (mSeq (mFor (iAnyM (mVar 0)) (kName 2)
  (mSet 1 (mBin (gAdd false) (mVar 1) (mVar 2))))
  (mRet (mVar 1))))
noncomputable def m__law_listed : MF := mF 1 3 0 b__law_listed
theorem has__law_listed (T : Txt K mg) : Rw.Has P w K mg base (L2.CX P w) 2 "_law_listed" ["_law_parts"] (spM ⟨K, mg⟩ m__law_listed) := by
  have h__law_number := has__law_number (P := P) (w := w) (base := base) T
  exact def_has (m := b__law_listed) 1 3 0 T._law_listed sc__law_listed rfl rfl (fun f cdv A outer s H E hr tk => (s_cons (s_set (j := 1) sc__law_listed.nd rfl (by first | exact Or.inl rfl | exact Or.inr rfl) (e_call h__law_number (hr.mono (by decide)) tk (a_cons (e_len (a_cons (e_var (i := 0)) a_nil) T.b_len) a_nil)))
  (s_cons (s_for (passes_of rfl) rfl (i_any (e_var (i := 0))) (g_name (j := 2) sc__law_listed.nd rfl (by first | exact Or.inl rfl | exact Or.inr rfl))
  (s_one (s_set (j := 1) sc__law_listed.nd rfl (by first | exact Or.inl rfl | exact Or.inr rfl) (e_add false (e_var (i := 1)) (e_var (i := 2))))))
  (s_one (s_ret (e_var (i := 1)))))))
noncomputable def b__law_name_code : MS := (mSeq (mSet 1 (mC (.str "0123456789")))
  (mSeq (mSet 2 (mC (.str "abcdefghijklmnopqrstuvwxyz")))
  (mSeq (mSet 3 (mList true mNil))
  (mSeq (mFor (iStrM (mVar 0)) (kName 4)
  (mSeq (mSet 5 (mC (.int 95)))
  (mSeq (mIf (mTst (mBin (gIn false) (mVar 4) (mVar 1)))
  (mSet 5 (mBin (gAdd false) (mC (.int 48)) (mMethS gSIndex (mVar 1) (mCons (mVar 4) mNil))))
  (mIf (mTst (mBin (gIn false) (mVar 4) (mVar 2)))
  (mSet 5 (mBin (gAdd false) (mC (.int 97)) (mMethS gSIndex (mVar 2) (mCons (mVar 4) mNil))))
  mSkip))
  (mDo (mMethL gAppend (mVar 3) (mCons (mList false (mCons (mVar 5) mNil)) mNil))))))
  (mRet (mCall m__law_listed (mCons (mVar 3) mNil)))))))
noncomputable def m__law_name_code : MF := mF 1 6 2 b__law_name_code
theorem has__law_name_code (T : Txt K mg) : Rw.Has P w K mg base (L2.CX P w) 3 "_law_name_code" ["_law_name"] (spM ⟨K, mg⟩ m__law_name_code) := by
  have h__law_listed := has__law_listed (P := P) (w := w) (base := base) T
  exact def_has (m := b__law_name_code) 1 6 2 T._law_name_code sc__law_name_code rfl rfl (fun f cdv A outer s H E hr tk => (s_cons (s_set (j := 1) sc__law_name_code.nd rfl (by first | exact Or.inl rfl | exact Or.inr rfl) e_str)
  (s_cons (s_set (j := 2) sc__law_name_code.nd rfl (by first | exact Or.inl rfl | exact Or.inr rfl) e_str)
  (s_cons (s_set (j := 3) sc__law_name_code.nd rfl (by first | exact Or.inl rfl | exact Or.inr rfl) (e_list true a_nil))
  (s_cons (s_for (passes_of rfl) rfl (i_str (e_var (i := 0))) (g_name (j := 4) sc__law_name_code.nd rfl (by first | exact Or.inl rfl | exact Or.inr rfl))
  (s_cons (s_set (j := 5) sc__law_name_code.nd rfl (by first | exact Or.inl rfl | exact Or.inr rfl) e_int)
  (s_cons (s_if (t_in hr (e_var (i := 4)) (e_var (i := 1)))
  (s_one (s_set (j := 5) sc__law_name_code.nd rfl (by first | exact Or.inl rfl | exact Or.inr rfl) (e_add false e_int (e_methS PySem.F.slot_str_index PySem.F.type_str_index mt_sindex gSIndex_ok (e_var (i := 1)) (a_cons (e_var (i := 4)) a_nil) ⟨rfl, rfl⟩))))
  (s_one (s_if (t_in hr (e_var (i := 4)) (e_var (i := 2)))
  (s_one (s_set (j := 5) sc__law_name_code.nd rfl (by first | exact Or.inl rfl | exact Or.inr rfl) (e_add false e_int (e_methS PySem.F.slot_str_index PySem.F.type_str_index mt_sindex gSIndex_ok (e_var (i := 2)) (a_cons (e_var (i := 4)) a_nil) ⟨rfl, rfl⟩))))
  s_nil)))
  (s_one (s_do (e_methL PySem.F.slot_list_append PySem.F.type_list_append mt_append gAppend_ok (e_var (i := 3)) (a_cons (e_list false (a_cons (e_var (i := 5)) a_nil)) a_nil) ⟨rfl, rfl⟩))))))
  (s_one (s_ret (e_call h__law_listed (hr.mono (by decide)) tk (a_cons (e_var (i := 3)) a_nil)))))))))
noncomputable def b__law_path_code : MS := (mRet (mCall m__law_listed (mCons (mLc false [1] (pt1 1) (iAnyM (mVar 0)) mYes (mCall m__law_name_code (mCons (mVar 1) mNil))) mNil)))
noncomputable def m__law_path_code : MF := mF 1 2 0 b__law_path_code
theorem has__law_path_code (T : Txt K mg) : Rw.Has P w K mg base (L2.CX P w) 4 "_law_path_code" ["_law_path"] (spM ⟨K, mg⟩ m__law_path_code) := by
  have h__law_listed := has__law_listed (P := P) (w := w) (base := base) T
  have h__law_name_code := has__law_name_code (P := P) (w := w) (base := base) T
  exact def_has (m := b__law_path_code) 1 2 0 T._law_path_code sc__law_path_code rfl rfl (fun f cdv A outer s H E hr tk => (s_one (s_ret (e_call h__law_listed (hr.mono (by decide)) tk (a_cons (e_lc (own := [("_law_name", 1)]) false (pt1_ok 1) rfl sc__law_path_code.nd (i_any (e_var (i := 0))) (blkOk_by (own := [("_law_name", 1)]) (N := ["_law_path", "_law_name"]) (sc := defScope (topS 28)) (by decide +kernel)) (fun _ _ _ _ _ => (pg_name (i := 1) sc__law_path_code.nd rfl (by first | exact Or.inl rfl | exact Or.inr rfl))) (fun _ _ _ _ _ => ts_nil) (fun _ _ _ _ _ => (e_call h__law_name_code (hr.mono (by decide)) Am.takes0 (a_cons (e_var (i := 1)) a_nil)))) a_nil)))))
noncomputable def b__law_things_code : MS := (mSeq (mSet 1 (mList true mNil))
  (mSeq (mFor (iAnyM (mCallB (gSortA false) (mCons (mCallB (gListA false) (mCons (mVar 0) mNil)) mNil))) (kName 2)
  (mSeq (mSet 3 (mCall m__law_path_code (mCons (mVar 2) mNil)))
  (mIf (mTst (mBin (gIs false) (mBin gIx (mVar 0) (mVar 2)) (mC .non)))
  (mDo (mMethL gAppend (mVar 1) (mCons (mBin (gAdd false) (mVar 3) (mList false (mCons (mC (.int 0)) mNil))) mNil)))
  (mSeq (mAsg (mBin gIx (mVar 0) (mVar 2)) (kTup (kCons (kName 4) (kCons (kName 5) kNil)) 2))
  (mDo (mMethL gAppend (mVar 1) (mCons (mBin (gAdd false) (mBin (gAdd false) (mBin (gAdd false) (mVar 3) (mList false (mCons (mC (.int 1)) mNil))) (mCall m__law_number (mCons (mVar 4) mNil))) (mCall m__law_listed (mCons (mLc false [6] (pt1 6) (iAnyM (mVar 5)) mYes (mCall m__law_number (mCons (mVar 6) mNil))) mNil))) mNil)))))))
  (mRet (mCall m__law_listed (mCons (mVar 1) mNil)))))
noncomputable def m__law_things_code : MF := mF 1 7 2 b__law_things_code
theorem has__law_things_code (T : Txt K mg) : Rw.Has P w K mg base (L2.CX P w) 5 "_law_things_code" ["_law_things_here"] (spM ⟨K, mg⟩ m__law_things_code) := by
  have h__law_listed := has__law_listed (P := P) (w := w) (base := base) T
  have h__law_number := has__law_number (P := P) (w := w) (base := base) T
  have h__law_path_code := has__law_path_code (P := P) (w := w) (base := base) T
  exact def_has (m := b__law_things_code) 1 7 2 T._law_things_code sc__law_things_code rfl rfl (fun f cdv A outer s H E hr tk => (s_cons (s_set (j := 1) sc__law_things_code.nd rfl (by first | exact Or.inl rfl | exact Or.inr rfl) (e_list true a_nil))
  (s_cons (s_for (passes_of rfl) rfl (i_any (e_sortA false hr rfl (a_cons (e_listA false rfl (a_cons (e_var (i := 0)) a_nil) T.b_list) a_nil) T.b_sorted)) (g_name (j := 2) sc__law_things_code.nd rfl (by first | exact Or.inl rfl | exact Or.inr rfl))
  (s_cons (s_set (j := 3) sc__law_things_code.nd rfl (by first | exact Or.inl rfl | exact Or.inr rfl) (e_call h__law_path_code (hr.mono (by decide)) tk (a_cons (e_var (i := 2)) a_nil)))
  (s_one (s_if (t_is (e_ix hr (e_var (i := 0)) (e_var (i := 2))) e_non)
  (s_one (s_do (e_methL PySem.F.slot_list_append PySem.F.type_list_append mt_append gAppend_ok (e_var (i := 1)) (a_cons (e_add false (e_var (i := 3)) (e_list false (a_cons e_int a_nil))) a_nil) ⟨rfl, rfl⟩)))
  (s_cons (s_asg (e_ix hr (e_var (i := 0)) (e_var (i := 2))) (g_tup rfl (gs_cons (g_name (j := 4) sc__law_things_code.nd rfl (by first | exact Or.inl rfl | exact Or.inr rfl)) (gs_cons (g_name (j := 5) sc__law_things_code.nd rfl (by first | exact Or.inl rfl | exact Or.inr rfl)) gs_nil))))
  (s_one (s_do (e_methL PySem.F.slot_list_append PySem.F.type_list_append mt_append gAppend_ok (e_var (i := 1)) (a_cons (e_add false (e_add false (e_add false (e_var (i := 3)) (e_list false (a_cons e_int a_nil))) (e_call h__law_number (hr.mono (by decide)) tk (a_cons (e_var (i := 4)) a_nil))) (e_call h__law_listed (hr.mono (by decide)) tk (a_cons (e_lc (own := [("_law_stripe", 6)]) false (pt1_ok 6) rfl sc__law_things_code.nd (i_any (e_var (i := 5))) (blkOk_by (own := [("_law_stripe", 6)]) (N := ["_law_things_here", "_law_parts", "_law_path", "_law_data", "_law_length", "_law_stripes", "_law_stripe"]) (sc := defScope (topS 29)) (by decide +kernel)) (fun _ _ _ _ _ => (pg_name (i := 6) sc__law_things_code.nd rfl (by first | exact Or.inl rfl | exact Or.inr rfl))) (fun _ _ _ _ _ => ts_nil) (fun _ _ _ _ _ => (e_call h__law_number (hr.mono (by decide)) Am.takes0 (a_cons (e_var (i := 6)) a_nil)))) a_nil))) a_nil) ⟨rfl, rfl⟩))))))))
  (s_one (s_ret (e_call h__law_listed (hr.mono (by decide)) tk (a_cons (e_var (i := 1)) a_nil)))))))
noncomputable def b__law_record_code : MS := (mSeq (mSet 1 (mList false (mCons (mC (.str "folder")) (mCons (mC (.str "file")) (mCons (mC (.str "put")) (mCons (mC (.str "trim")) (mCons (mC (.str "move")) (mCons (mC (.str "drop")) (mCons (mC (.str "snap")) (mCons (mC (.str "forget")) (mCons (mC (.str "back")) mNil)))))))))))
  (mSeq (mSet 2 (mList false (mCons (mMethL gIndex (mVar 1) (mCons (mBin gIx (mVar 0) (mC (.int 0))) mNil)) mNil)))
  (mSeq (mIf (mTst (mBin gGt (mBin gIx (mVar 2) (mC (.int 0))) (mC (.int 5))))
  (mRet (mBin (gAdd false) (mVar 2) (mCall m__law_name_code (mCons (mBin gIx (mVar 0) (mC (.int 1))) mNil))))
  mSkip)
  (mSeq (mSet 2 (mBin (gAdd false) (mVar 2) (mCall m__law_path_code (mCons (mBin gIx (mVar 0) (mC (.int 1))) mNil))))
  (mSeq (mIf (mTst (mBin (gEq false) (mBin gIx (mVar 0) (mC (.int 0))) (mC (.str "put"))))
  (mSeq (mSet 3 (mLc false [4, 5] (pt2 4 5) (iAnyM (mBin gIx (mVar 0) (mC (.int 3)))) mYes (mBin (gAdd false) (mCall m__law_number (mCons (mVar 4) mNil)) (mCall m__law_number (mCons (mVar 5) mNil)))))
  (mRet (mBin (gAdd false) (mBin (gAdd false) (mVar 2) (mCall m__law_number (mCons (mBin gIx (mVar 0) (mC (.int 2))) mNil))) (mCall m__law_listed (mCons (mVar 3) mNil)))))
  mSkip)
  (mSeq (mIf (mTst (mBin (gEq false) (mBin gIx (mVar 0) (mC (.int 0))) (mC (.str "trim"))))
  (mRet (mBin (gAdd false) (mBin (gAdd false) (mVar 2) (mCall m__law_number (mCons (mBin gIx (mVar 0) (mC (.int 2))) mNil))) (mCall m__law_number (mCons (mBin gIx (mVar 0) (mC (.int 3))) mNil))))
  mSkip)
  (mSeq (mIf (mTst (mBin (gEq false) (mBin gIx (mVar 0) (mC (.int 0))) (mC (.str "move"))))
  (mRet (mBin (gAdd false) (mVar 2) (mCall m__law_path_code (mCons (mBin gIx (mVar 0) (mC (.int 2))) mNil))))
  mSkip)
  (mRet (mVar 2)))))))))
noncomputable def m__law_record_code : MF := mF 1 6 0 b__law_record_code
theorem has__law_record_code (T : Txt K mg) : Rw.Has P w K mg base (L2.CX P w) 5 "_law_record_code" ["_law_record_here"] (spM ⟨K, mg⟩ m__law_record_code) := by
  have h__law_listed := has__law_listed (P := P) (w := w) (base := base) T
  have h__law_name_code := has__law_name_code (P := P) (w := w) (base := base) T
  have h__law_number := has__law_number (P := P) (w := w) (base := base) T
  have h__law_path_code := has__law_path_code (P := P) (w := w) (base := base) T
  exact def_has (m := b__law_record_code) 1 6 0 T._law_record_code sc__law_record_code rfl rfl (fun f cdv A outer s H E hr tk => (s_cons (s_set (j := 1) sc__law_record_code.nd rfl (by first | exact Or.inl rfl | exact Or.inr rfl) (e_list false (a_cons e_str (a_cons e_str (a_cons e_str (a_cons e_str (a_cons e_str (a_cons e_str (a_cons e_str (a_cons e_str (a_cons e_str a_nil)))))))))))
  (s_cons (s_set (j := 2) sc__law_record_code.nd rfl (by first | exact Or.inl rfl | exact Or.inr rfl) (e_list false (a_cons (e_methL PySem.F.slot_list_index PySem.F.type_list_index (mt_index' rfl) gIndex_ok (e_var (i := 1)) (a_cons (e_ix hr (e_var (i := 0)) e_int) a_nil) ⟨rfl, rfl⟩) a_nil)))
  (s_cons (s_if (t_gt (e_ix hr (e_var (i := 2)) e_int) e_int)
  (s_one (s_ret (e_add false (e_var (i := 2)) (e_call h__law_name_code (hr.mono (by decide)) tk (a_cons (e_ix hr (e_var (i := 0)) e_int) a_nil)))))
  s_nil)
  (s_cons (s_set (j := 2) sc__law_record_code.nd rfl (by first | exact Or.inl rfl | exact Or.inr rfl) (e_add false (e_var (i := 2)) (e_call h__law_path_code (hr.mono (by decide)) tk (a_cons (e_ix hr (e_var (i := 0)) e_int) a_nil))))
  (s_cons (s_if (t_eq hr (e_ix hr (e_var (i := 0)) e_int) e_str)
  (s_cons (s_setLc (i := 3) (own := [("_law_block", 4), ("_law_stripe", 5)]) false (pt2_ok 4 5 (by decide)) rfl sc__law_record_code.nd rfl rfl (sw_true rfl rfl rfl (by decide +kernel)) (i_any (e_ix hr (e_var (i := 0)) e_int)) (blkOk_by (own := [("_law_block", 4), ("_law_stripe", 5)]) (N := ["_law_record_here", "_law_words", "_law_data", "_law_pairs", "_law_block", "_law_stripe"]) (sc := defScope (topS 30)) (by decide +kernel)) (fun _ _ _ _ _ => (pg_tup rfl (pgs_cons (pg_name (i := 4) sc__law_record_code.nd rfl (by first | exact Or.inl rfl | exact Or.inr rfl)) (pgs_cons (pg_name (i := 5) sc__law_record_code.nd rfl (by first | exact Or.inl rfl | exact Or.inr rfl)) pgs_nil)))) (fun _ _ _ _ _ => ts_nil) (fun _ _ _ _ _ => (e_add false (e_call h__law_number (hr.mono (by decide)) Am.takes0 (a_cons (e_var (i := 4)) a_nil)) (e_call h__law_number (hr.mono (by decide)) Am.takes0 (a_cons (e_var (i := 5)) a_nil)))))
  (s_one (s_ret (e_add false (e_add false (e_var (i := 2)) (e_call h__law_number (hr.mono (by decide)) tk (a_cons (e_ix hr (e_var (i := 0)) e_int) a_nil))) (e_call h__law_listed (hr.mono (by decide)) tk (a_cons (e_var (i := 3)) a_nil))))))
  s_nil)
  (s_cons (s_if (t_eq hr (e_ix hr (e_var (i := 0)) e_int) e_str)
  (s_one (s_ret (e_add false (e_add false (e_var (i := 2)) (e_call h__law_number (hr.mono (by decide)) tk (a_cons (e_ix hr (e_var (i := 0)) e_int) a_nil))) (e_call h__law_number (hr.mono (by decide)) tk (a_cons (e_ix hr (e_var (i := 0)) e_int) a_nil)))))
  s_nil)
  (s_cons (s_if (t_eq hr (e_ix hr (e_var (i := 0)) e_int) e_str)
  (s_one (s_ret (e_add false (e_var (i := 2)) (e_call h__law_path_code (hr.mono (by decide)) tk (a_cons (e_ix hr (e_var (i := 0)) e_int) a_nil)))))
  s_nil)
  (s_one (s_ret (e_var (i := 2))))))))))))
noncomputable def b__law_image_code : MS := (mSeq (mSet 3 (mLc false [4] (pt1 4) (iAnyM (mCallB (gSortA false) (mCons (mCallB (gListA false) (mCons (mVar 2) mNil)) mNil))) mYes (mBin (gAdd false) (mCall m__law_name_code (mCons (mVar 4) mNil)) (mCall m__law_things_code (mCons (mBin gIx (mVar 2) (mVar 4)) mNil)))))
  (mRet (mBin (gAdd false) (mBin (gAdd false) (mCall m__law_number (mCons (mVar 0) mNil)) (mCall m__law_things_code (mCons (mVar 1) mNil))) (mCall m__law_listed (mCons (mVar 3) mNil)))))
noncomputable def m__law_image_code : MF := mF 3 5 0 b__law_image_code
theorem has__law_image_code (T : Txt K mg) : Rw.Has P w K mg base (L2.CX P w) 6 "_law_image_code" ["_law_commits", "_law_things_here", "_law_snapshots"] (spM ⟨K, mg⟩ m__law_image_code) := by
  have h__law_listed := has__law_listed (P := P) (w := w) (base := base) T
  have h__law_name_code := has__law_name_code (P := P) (w := w) (base := base) T
  have h__law_number := has__law_number (P := P) (w := w) (base := base) T
  have h__law_things_code := has__law_things_code (P := P) (w := w) (base := base) T
  exact def_has (m := b__law_image_code) 3 5 0 T._law_image_code sc__law_image_code rfl rfl (fun f cdv A outer s H E hr tk => (s_cons (s_setLc (i := 3) (own := [("_law_name", 4)]) false (pt1_ok 4) rfl sc__law_image_code.nd rfl rfl (sw_true rfl rfl rfl (by decide +kernel)) (i_any (e_sortA false hr rfl (a_cons (e_listA false rfl (a_cons (e_var (i := 2)) a_nil) T.b_list) a_nil) T.b_sorted)) (blkOk_by (own := [("_law_name", 4)]) (N := ["_law_commits", "_law_things_here", "_law_snapshots", "_law_parts", "_law_name"]) (sc := defScope (topS 31)) (by decide +kernel)) (fun _ _ _ _ _ => (pg_name (i := 4) sc__law_image_code.nd rfl (by first | exact Or.inl rfl | exact Or.inr rfl))) (fun _ _ _ _ _ => ts_nil) (fun _ _ _ _ _ => (e_add false (e_call h__law_name_code (hr.mono (by decide)) Am.takes0 (a_cons (e_var (i := 4)) a_nil)) (e_call h__law_things_code (hr.mono (by decide)) Am.takes0 (a_cons (e_ix hr (e_var (i := 2)) (e_var (i := 4))) a_nil)))))
  (s_one (s_ret (e_add false (e_add false (e_call h__law_number (hr.mono (by decide)) tk (a_cons (e_var (i := 0)) a_nil)) (e_call h__law_things_code (hr.mono (by decide)) tk (a_cons (e_var (i := 1)) a_nil))) (e_call h__law_listed (hr.mono (by decide)) tk (a_cons (e_var (i := 3)) a_nil)))))))
end
end Lw
namespace Lw
open PySem PySem.Spec PyProof.Rows L2 Am
section
variable {P : Program} {w : World} {K : PySem.W.Frag} {mg : Str → Option Value} {base : Heap}
noncomputable def b__law_word : MS := (mSeq (mSet 1 (mList false (mCons (mC (.str "a")) (mCons (mC (.str "b2")) (mCons (mC (.str "0")) (mCons (mC (.str "_")) (mCons (mC (.str "z_9")) (mCons (mC (.str "abcdefghijkl")) (mCons (mC (.str "mnopqrstuvwx")) (mCons (mC (.str "yz0123456789")) mNil))))))))))
  (mRet (mBin gIx (mVar 1) (mCall m__law_next (mCons (mVar 0) (mCons (mC (.int 8)) mNil))))))
noncomputable def m__law_word : MF := mF 1 2 0 b__law_word
theorem has__law_word (T : Txt K mg) : Rw.Has P w K mg base (L2.CX P w) 2 "_law_word" ["_law_state"] (spM ⟨K, mg⟩ m__law_word) := by
  have h__law_next := has__law_next (P := P) (w := w) (base := base) T
  exact def_has (m := b__law_word) 1 2 0 T._law_word sc__law_word rfl rfl (fun f cdv A outer s H E hr tk => (s_cons (s_set (j := 1) sc__law_word.nd rfl (by first | exact Or.inl rfl | exact Or.inr rfl) (e_list false (a_cons e_str (a_cons e_str (a_cons e_str (a_cons e_str (a_cons e_str (a_cons e_str (a_cons e_str (a_cons e_str a_nil))))))))))
  (s_one (s_ret (e_ix hr (e_var (i := 1)) (e_call h__law_next (hr.mono (by decide)) tk (a_cons (e_var (i := 0)) (a_cons e_int a_nil))))))))
noncomputable def b__law_some_path : MS := (mRet (mCallB gTupOf (mCons (mLc false [1] (pt1 1) (iRng1M (mCons (mCall m__law_next (mCons (mVar 0) (mCons (mC (.int 7)) mNil))) mNil)) mYes (mCall m__law_word (mCons (mVar 0) mNil))) mNil)))
noncomputable def m__law_some_path : MF := mF 1 2 0 b__law_some_path
theorem has__law_some_path (T : Txt K mg) : Rw.Has P w K mg base (L2.CX P w) 3 "_law_some_path" ["_law_state"] (spM ⟨K, mg⟩ m__law_some_path) := by
  have h__law_next := has__law_next (P := P) (w := w) (base := base) T
  have h__law_word := has__law_word (P := P) (w := w) (base := base) T
  exact def_has (m := b__law_some_path) 1 2 0 T._law_some_path sc__law_some_path rfl rfl (fun f cdv A outer s H E hr tk => (s_one (s_ret (e_tuplec (a_cons (e_lc (own := [("_law_k", 1)]) false (pt1_ok 1) rfl sc__law_some_path.nd (i_range1 T.b_range (a_cons (e_call h__law_next (hr.mono (by decide)) tk (a_cons (e_var (i := 0)) (a_cons e_int a_nil))) a_nil)) (blkOk_by (own := [("_law_k", 1)]) (N := ["_law_state", "_law_k"]) (sc := defScope (topS 33)) (by decide +kernel)) (fun _ _ _ _ _ => (pg_name (i := 1) sc__law_some_path.nd rfl (by first | exact Or.inl rfl | exact Or.inr rfl))) (fun _ _ _ _ _ => ts_nil) (fun _ _ _ _ _ => (e_call h__law_word (hr.mono (by decide)) Am.takes0 (a_cons (e_var (i := 0)) a_nil)))) a_nil) T.b_tuple))))
noncomputable def b__law_big : MS := (mRet (mCall m__law_next (mCons (mVar 0) (mCons (mBin gIx (mList false (mCons (mC (.int 2)) (mCons (mC (.int 130)) (mCons (mC (.int 20000)) (mCons (mBin gPow (mC (.int 2)) (mC (.int 62))) mNil))))) (mCall m__law_next (mCons (mVar 0) (mCons (mC (.int 4)) mNil)))) mNil))))
noncomputable def m__law_big : MF := mF 1 1 0 b__law_big
theorem has__law_big (T : Txt K mg) : Rw.Has P w K mg base (L2.CX P w) 2 "_law_big" ["_law_state"] (spM ⟨K, mg⟩ m__law_big) := by
  have h__law_next := has__law_next (P := P) (w := w) (base := base) T
  exact def_has (m := b__law_big) 1 1 0 T._law_big sc__law_big rfl rfl (fun f cdv A outer s H E hr tk => (s_one (s_ret (e_call h__law_next (hr.mono (by decide)) tk (a_cons (e_var (i := 0)) (a_cons (e_ix hr (e_list false (a_cons e_int (a_cons e_int (a_cons e_int (a_cons (e_pow e_int e_int) a_nil))))) (e_call h__law_next (hr.mono (by decide)) tk (a_cons (e_var (i := 0)) (a_cons e_int a_nil)))) a_nil))))))
noncomputable def b__law_record : MS := (mSeq (mSet 1 (mBin gIx (mList false (mCons (mC (.str "folder")) (mCons (mC (.str "file")) (mCons (mC (.str "put")) (mCons (mC (.str "put")) (mCons (mC (.str "trim")) (mCons (mC (.str "move")) (mCons (mC (.str "drop")) (mCons (mC (.str "snap")) (mCons (mC (.str "forget")) (mCons (mC (.str "back")) mNil))))))))))) (mCall m__law_next (mCons (mVar 0) (mCons (mC (.int 10)) mNil)))))
  (mSeq (mIf (mTst (mBin (gIn false) (mVar 1) (mList false (mCons (mC (.str "snap")) (mCons (mC (.str "forget")) (mCons (mC (.str "back")) mNil))))))
  (mRet (mTup (mCons (mVar 1) (mCons (mCall m__law_word (mCons (mVar 0) mNil)) mNil))))
  mSkip)
  (mSeq (mSet 2 (mCall m__law_some_path (mCons (mVar 0) mNil)))
  (mSeq (mIf (mTst (mBin (gEq false) (mVar 1) (mC (.str "put"))))
  (mSeq (mSet 3 (mCall m__law_next (mCons (mVar 0) (mCons (mC (.int 5)) mNil))))
  (mSeq (mIf (mTst (mBin (gEq false) (mCall m__law_next (mCons (mVar 0) (mCons (mC (.int 12)) mNil))) (mC (.int 0))))
  (mSet 3 (mBin (gAdd false) (mC (.int 128)) (mCall m__law_next (mCons (mVar 0) (mCons (mC (.int 9)) mNil)))))
  mSkip)
  (mRet (mTup (mCons (mVar 1) (mCons (mVar 2) (mCons (mCall m__law_big (mCons (mVar 0) mNil)) (mCons (mCallB gTupOf (mCons (mLc false [4] (pt1 4) (iRng1M (mCons (mVar 3) mNil)) mYes (mTup (mCons (mCall m__law_big (mCons (mVar 0) mNil)) (mCons (mVar 4) mNil)))) mNil)) mNil))))))))
  mSkip)
  (mSeq (mIf (mTst (mBin (gEq false) (mVar 1) (mC (.str "trim"))))
  (mRet (mTup (mCons (mVar 1) (mCons (mVar 2) (mCons (mCall m__law_big (mCons (mVar 0) mNil)) (mCons (mCall m__law_big (mCons (mVar 0) mNil)) mNil))))))
  mSkip)
  (mSeq (mIf (mTst (mBin (gEq false) (mVar 1) (mC (.str "move"))))
  (mRet (mTup (mCons (mVar 1) (mCons (mVar 2) (mCons (mCall m__law_some_path (mCons (mVar 0) mNil)) mNil)))))
  mSkip)
  (mRet (mTup (mCons (mVar 1) (mCons (mVar 2) mNil))))))))))
noncomputable def m__law_record : MF := mF 1 5 0 b__law_record
theorem has__law_record (T : Txt K mg) : Rw.Has P w K mg base (L2.CX P w) 4 "_law_record" ["_law_state"] (spM ⟨K, mg⟩ m__law_record) := by
  have h__law_big := has__law_big (P := P) (w := w) (base := base) T
  have h__law_next := has__law_next (P := P) (w := w) (base := base) T
  have h__law_some_path := has__law_some_path (P := P) (w := w) (base := base) T
  have h__law_word := has__law_word (P := P) (w := w) (base := base) T
  exact def_has (m := b__law_record) 1 5 0 T._law_record sc__law_record rfl rfl (fun f cdv A outer s H E hr tk => (s_cons (s_set (j := 1) sc__law_record.nd rfl (by first | exact Or.inl rfl | exact Or.inr rfl) (e_ix hr (e_list false (a_cons e_str (a_cons e_str (a_cons e_str (a_cons e_str (a_cons e_str (a_cons e_str (a_cons e_str (a_cons e_str (a_cons e_str (a_cons e_str a_nil))))))))))) (e_call h__law_next (hr.mono (by decide)) tk (a_cons (e_var (i := 0)) (a_cons e_int a_nil)))))
  (s_cons (s_if (t_in hr (e_var (i := 1)) (e_list false (a_cons e_str (a_cons e_str (a_cons e_str a_nil)))))
  (s_one (s_ret (e_tup (a_cons (e_var (i := 1)) (a_cons (e_call h__law_word (hr.mono (by decide)) tk (a_cons (e_var (i := 0)) a_nil)) a_nil)))))
  s_nil)
  (s_cons (s_set (j := 2) sc__law_record.nd rfl (by first | exact Or.inl rfl | exact Or.inr rfl) (e_call h__law_some_path (hr.mono (by decide)) tk (a_cons (e_var (i := 0)) a_nil)))
  (s_cons (s_if (t_eq hr (e_var (i := 1)) e_str)
  (s_cons (s_set (j := 3) sc__law_record.nd rfl (by first | exact Or.inl rfl | exact Or.inr rfl) (e_call h__law_next (hr.mono (by decide)) tk (a_cons (e_var (i := 0)) (a_cons e_int a_nil))))
  (s_cons (s_if (t_eq hr (e_call h__law_next (hr.mono (by decide)) tk (a_cons (e_var (i := 0)) (a_cons e_int a_nil))) e_int)
  (s_one (s_set (j := 3) sc__law_record.nd rfl (by first | exact Or.inl rfl | exact Or.inr rfl) (e_add false e_int (e_call h__law_next (hr.mono (by decide)) tk (a_cons (e_var (i := 0)) (a_cons e_int a_nil))))))
  s_nil)
  (s_one (s_ret (e_tup (a_cons (e_var (i := 1)) (a_cons (e_var (i := 2)) (a_cons (e_call h__law_big (hr.mono (by decide)) tk (a_cons (e_var (i := 0)) a_nil)) (a_cons (e_tuplec (a_cons (e_lc (own := [("_law_k", 4)]) false (pt1_ok 4) rfl sc__law_record.nd (i_range1 T.b_range (a_cons (e_var (i := 3)) a_nil)) (blkOk_by (own := [("_law_k", 4)]) (N := ["_law_state", "_law_word_here", "_law_path", "_law_count", "_law_k"]) (sc := defScope (topS 35)) (by decide +kernel)) (fun _ _ _ _ _ => (pg_name (i := 4) sc__law_record.nd rfl (by first | exact Or.inl rfl | exact Or.inr rfl))) (fun _ _ _ _ _ => ts_nil) (fun _ _ _ _ _ => (e_tup (a_cons (e_call h__law_big (hr.mono (by decide)) Am.takes0 (a_cons (e_var (i := 0)) a_nil)) (a_cons (e_var (i := 4)) a_nil))))) a_nil) T.b_tuple) a_nil)))))))))
  s_nil)
  (s_cons (s_if (t_eq hr (e_var (i := 1)) e_str)
  (s_one (s_ret (e_tup (a_cons (e_var (i := 1)) (a_cons (e_var (i := 2)) (a_cons (e_call h__law_big (hr.mono (by decide)) tk (a_cons (e_var (i := 0)) a_nil)) (a_cons (e_call h__law_big (hr.mono (by decide)) tk (a_cons (e_var (i := 0)) a_nil)) a_nil)))))))
  s_nil)
  (s_cons (s_if (t_eq hr (e_var (i := 1)) e_str)
  (s_one (s_ret (e_tup (a_cons (e_var (i := 1)) (a_cons (e_var (i := 2)) (a_cons (e_call h__law_some_path (hr.mono (by decide)) tk (a_cons (e_var (i := 0)) a_nil)) a_nil))))))
  s_nil)
  (s_one (s_ret (e_tup (a_cons (e_var (i := 1)) (a_cons (e_var (i := 2)) a_nil))))))))))))
noncomputable def b__law_things : MS := (mSeq (mSet 1 mDNewT)
  (mSeq (mFor (iRng1M (mCons (mCall m__law_next (mCons (mVar 0) (mCons (mC (.int 6)) mNil))) mNil)) (kName 2)
  (mSeq (mSet 3 (mCall m__law_some_path (mCons (mVar 0) mNil)))
  (mSeq (mAsg (mC .non) (kSub (mVar 1) (mVar 3)))
  (mIf (mTst (mBin gGt (mCall m__law_next (mCons (mVar 0) (mCons (mC (.int 3)) mNil))) (mC (.int 0))))
  (mAsg (mTup (mCons (mCall m__law_big (mCons (mVar 0) mNil)) (mCons (mCallB gTupOf (mCons (mLc false [4] (pt1 4) (iRng1M (mCons (mCall m__law_next (mCons (mVar 0) (mCons (mC (.int 4)) mNil))) mNil)) mYes (mCall m__law_big (mCons (mVar 0) mNil))) mNil)) mNil))) (kSub (mVar 1) (mVar 3)))
  mSkip))))
  (mRet (mVar 1))))
noncomputable def m__law_things : MF := mF 1 5 2 b__law_things
theorem has__law_things (T : Txt K mg) : Rw.Has P w K mg base (L2.CX P w) 4 "_law_things" ["_law_state"] (spM ⟨K, mg⟩ m__law_things) := by
  have h__law_big := has__law_big (P := P) (w := w) (base := base) T
  have h__law_next := has__law_next (P := P) (w := w) (base := base) T
  have h__law_some_path := has__law_some_path (P := P) (w := w) (base := base) T
  exact def_has (m := b__law_things) 1 5 2 T._law_things sc__law_things rfl rfl (fun f cdv A outer s H E hr tk => (s_cons (s_set (j := 1) sc__law_things.nd rfl (by first | exact Or.inl rfl | exact Or.inr rfl) e_dnewT)
  (s_cons (s_for (passes_of rfl) rfl (i_range1 T.b_range (a_cons (e_call h__law_next (hr.mono (by decide)) tk (a_cons (e_var (i := 0)) (a_cons e_int a_nil))) a_nil)) (g_name (j := 2) sc__law_things.nd rfl (by first | exact Or.inl rfl | exact Or.inr rfl))
  (s_cons (s_set (j := 3) sc__law_things.nd rfl (by first | exact Or.inl rfl | exact Or.inr rfl) (e_call h__law_some_path (hr.mono (by decide)) tk (a_cons (e_var (i := 0)) a_nil)))
  (s_cons (s_asg e_non (g_sub (W := fun cls d _ H => E cls d H) hr (e_var (i := 1)) (e_var (i := 3))))
  (s_one (s_if (t_gt (e_call h__law_next (hr.mono (by decide)) tk (a_cons (e_var (i := 0)) (a_cons e_int a_nil))) e_int)
  (s_one (s_asg (e_tup (a_cons (e_call h__law_big (hr.mono (by decide)) tk (a_cons (e_var (i := 0)) a_nil)) (a_cons (e_tuplec (a_cons (e_lc (own := [("_law_j", 4)]) false (pt1_ok 4) rfl sc__law_things.nd (i_range1 T.b_range (a_cons (e_call h__law_next (hr.mono (by decide)) tk (a_cons (e_var (i := 0)) (a_cons e_int a_nil))) a_nil)) (blkOk_by (own := [("_law_j", 4)]) (N := ["_law_state", "_law_things_here", "_law_k", "_law_path", "_law_j"]) (sc := defScope (topS 36)) (by decide +kernel)) (fun _ _ _ _ _ => (pg_name (i := 4) sc__law_things.nd rfl (by first | exact Or.inl rfl | exact Or.inr rfl))) (fun _ _ _ _ _ => ts_nil) (fun _ _ _ _ _ => (e_call h__law_big (hr.mono (by decide)) Am.takes0 (a_cons (e_var (i := 0)) a_nil)))) a_nil) T.b_tuple) a_nil))) (g_sub (W := fun cls d _ H => E cls d H) hr (e_var (i := 1)) (e_var (i := 3)))))
  s_nil)))))
  (s_one (s_ret (e_var (i := 1)))))))
noncomputable def b__law_item_list : MS := (mRet (mCallB gTupOf (mCons (mLc false [1] (pt1 1) (iAnyM (mCallB (gSortA false) (mCons (mCallB (gListA false) (mCons (mVar 0) mNil)) mNil))) mYes (mTup (mCons (mVar 1) (mCons (mBin gIx (mVar 0) (mVar 1)) mNil)))) mNil)))
noncomputable def m__law_item_list : MF := mF 1 2 0 b__law_item_list
theorem has__law_item_list (T : Txt K mg) : Rw.Has P w K mg base (L2.CX P w) 1 "_law_item_list" ["_law_things_here"] (spM ⟨K, mg⟩ m__law_item_list) := by
  exact def_has (m := b__law_item_list) 1 2 0 T._law_item_list sc__law_item_list rfl rfl (fun f cdv A outer s H E hr tk => (s_one (s_ret (e_tuplec (a_cons (e_lc (own := [("_law_path", 1)]) false (pt1_ok 1) rfl sc__law_item_list.nd (i_any (e_sortA false hr rfl (a_cons (e_listA false rfl (a_cons (e_var (i := 0)) a_nil) T.b_list) a_nil) T.b_sorted)) (blkOk_by (own := [("_law_path", 1)]) (N := ["_law_things_here", "_law_path"]) (sc := defScope (topS 37)) (by decide +kernel)) (fun _ _ _ _ _ => (pg_name (i := 1) sc__law_item_list.nd rfl (by first | exact Or.inl rfl | exact Or.inr rfl))) (fun _ _ _ _ _ => ts_nil) (fun _ _ _ _ _ => (e_tup (a_cons (e_var (i := 1)) (a_cons (e_ix hr (e_var (i := 0)) (e_var (i := 1))) a_nil))))) a_nil) T.b_tuple))))
noncomputable def b__law_ends : MS := (mSeq (mTryAs isE "RotError" 2
  (mDo (mMeth "Reader" "end" m_Reader_end (mVar 0) mNil))
  (fun x => (mRet (mAndV (mBin gGt (mCallB gLen (mCons (mVar 1) mNil)) (mC (.int 0))) (mAndV (mIsX isK x "DamagedData") (mIsX isK x "ValueError"))))))
  (mRet (mBin (gEq false) (mCallB gLen (mCons (mVar 1) mNil)) (mC (.int 0)))))
noncomputable def m__law_ends : MF := mF 2 3 0 b__law_ends
theorem has__law_ends (T : Txt K mg) : Rw.Has P w K mg base (L2.CX P w) 2 "_law_ends" ["_law_reader", "_law_tail"] (spM ⟨K, mg⟩ m__law_ends) := by
  have h_Reader_end := has_Reader_end (P := P) (w := w) (base := base) T
  exact def_has (m := b__law_ends) 2 3 0 T._law_ends sc__law_ends rfl rfl (fun f cdv A outer s H E hr tk => (s_cons (s_tryAs (j := 2) T.em T.x_RotError tk sc__law_ends.nd rfl rfl (fun _ _ _ tk _ => (s_one (s_do (e_meth0 h_Reader_end (hr.mono (by decide)) tk (e_var (i := 0))))))
  (fun a oe cls d pn x z q => (Am.pss_one (p_ret (p_and phi_lasts (p_of (e_gt (e_len (a_cons (e_var (i := 1)) a_nil) T.b_len) e_int)) (p_and phi_lasts (p_isxO (j := 2) T.ix z q T.b_isinstance T.x_DamagedData) (p_one (p_isxB (j := 2) T.ix z q T.b_isinstance T.b_ValueError Am.boot_ValueError))))))))
  (s_one (s_ret (e_eq hr (e_len (a_cons (e_var (i := 1)) a_nil) T.b_len) e_int)))))
noncomputable def b__law_read : MS := (mSeq (mIf (mTst (mBin (gEq false) (mVar 1) (mC (.str "number"))))
  (mRet (mMeth "Reader" "read_number" m_Reader_read_number (mVar 0) mNil))
  mSkip)
  (mSeq (mIf (mTst (mBin (gEq false) (mVar 1) (mC (.str "path"))))
  (mRet (mMeth "Reader" "read_path" m_Reader_read_path (mVar 0) mNil))
  mSkip)
  (mSeq (mIf (mTst (mBin (gEq false) (mVar 1) (mC (.str "record"))))
  (mRet (mMeth "Reader" "read_record" m_Reader_read_record (mVar 0) mNil))
  mSkip)
  (mRet (mMeth "Reader" "read_group" m_Reader_read_group (mVar 0) mNil)))))
noncomputable def m__law_read : MF := mF 2 2 0 b__law_read
theorem has__law_read (T : Txt K mg) : Rw.Has P w K mg base (L2.CX P w) 8 "_law_read" ["_law_reader", "_law_form"] (spM ⟨K, mg⟩ m__law_read) := by
  have h_Reader_read_group := has_Reader_read_group (P := P) (w := w) (base := base) T
  have h_Reader_read_number := has_Reader_read_number (P := P) (w := w) (base := base) T
  have h_Reader_read_path := has_Reader_read_path (P := P) (w := w) (base := base) T
  have h_Reader_read_record := has_Reader_read_record (P := P) (w := w) (base := base) T
  exact def_has (m := b__law_read) 2 2 0 T._law_read sc__law_read rfl rfl (fun f cdv A outer s H E hr tk => (s_cons (s_if (t_eq hr (e_var (i := 1)) e_str)
  (s_one (s_ret (e_meth0 h_Reader_read_number (hr.mono (by decide)) tk (e_var (i := 0)))))
  s_nil)
  (s_cons (s_if (t_eq hr (e_var (i := 1)) e_str)
  (s_one (s_ret (e_meth0 h_Reader_read_path (hr.mono (by decide)) tk (e_var (i := 0)))))
  s_nil)
  (s_cons (s_if (t_eq hr (e_var (i := 1)) e_str)
  (s_one (s_ret (e_meth0 h_Reader_read_record (hr.mono (by decide)) tk (e_var (i := 0)))))
  s_nil)
  (s_one (s_ret (e_meth0 h_Reader_read_group (hr.mono (by decide)) tk (e_var (i := 0)))))))))
noncomputable def b__law_asks : MS := (mSeq (mIf (mNot (mTru (mCall m__law_same (mCons (mVar 2) (mCons (mVar 3) mNil)))))
  (mRet (mC (.bl false)))
  mSkip)
  (mSeq (mSet 5 (mBin (gAdd false) (mVar 3) (mVar 4)))
  (mSeq (mSet 6 (mMake "Reader" m_Reader___init__ (mCons (mVar 5) mNil)))
  (mSeq (mIf (mOr (mNot (mTru (mCall m__law_same (mCons (mFld isF "at" (mVar 6)) (mCons (mC (.int 0)) mNil))))) (mNot (mTru (mCall m__law_same (mCons (mCall m__law_read (mCons (mVar 6) (mCons (mVar 0) mNil))) (mCons (mVar 1) mNil))))))
  (mRet (mC (.bl false)))
  mSkip)
  (mRet (mAndV (mCall m__law_same (mCons (mFld isF "at" (mVar 6)) (mCons (mCallB gLen (mCons (mVar 3) mNil)) mNil))) (mAndV (mBin (gEq false) (mVar 5) (mBin (gAdd false) (mVar 3) (mVar 4))) (mCall m__law_ends (mCons (mVar 6) (mCons (mVar 4) mNil))))))))))
noncomputable def m__law_asks : MF := mF 5 7 2 b__law_asks
theorem has__law_asks (T : Txt K mg) : Rw.Has P w K mg base (L2.CX P w) 9 "_law_asks" ["_law_form", "_law_thing", "_law_told", "_law_due", "_law_tail"] (spM ⟨K, mg⟩ m__law_asks) := by
  have h_Reader___init__ := has_Reader___init__ (P := P) (w := w) (base := base) T
  have h__law_ends := has__law_ends (P := P) (w := w) (base := base) T
  have h__law_read := has__law_read (P := P) (w := w) (base := base) T
  have h__law_same := has__law_same (P := P) (w := w) (base := base) T
  exact def_has (m := b__law_asks) 5 7 2 T._law_asks sc__law_asks rfl rfl (fun f cdv A outer s H E hr tk => (s_cons (s_if (t_not (t_tru (e_call h__law_same (hr.mono (by decide)) tk (a_cons (e_var (i := 2)) (a_cons (e_var (i := 3)) a_nil)))))
  (s_one (s_ret e_bl))
  s_nil)
  (s_cons (s_set (j := 5) sc__law_asks.nd rfl (by first | exact Or.inl rfl | exact Or.inr rfl) (e_add false (e_var (i := 3)) (e_var (i := 4))))
  (s_cons (s_set (j := 6) sc__law_asks.nd rfl (by first | exact Or.inl rfl | exact Or.inr rfl) (e_make h_Reader___init__ T.mk_Reader (hr.mono (by decide)) tk (a_cons (e_var (i := 5)) a_nil)))
  (s_cons (s_if (t_bool (w_or (t_not (t_tru (e_call h__law_same (hr.mono (by decide)) tk (a_cons (e_fld T.fl (e_var (i := 6))) (a_cons e_int a_nil))))) (w_or1 (t_not (t_tru (e_call h__law_same (hr.mono (by decide)) tk (a_cons (e_call h__law_read (hr.mono (by decide)) tk (a_cons (e_var (i := 6)) (a_cons (e_var (i := 0)) a_nil))) (a_cons (e_var (i := 1)) a_nil))))))))
  (s_one (s_ret e_bl))
  s_nil)
  (s_one (s_ret (e_and (e_call h__law_same (hr.mono (by decide)) tk (a_cons (e_fld T.fl (e_var (i := 6))) (a_cons (e_len (a_cons (e_var (i := 3)) a_nil) T.b_len) a_nil))) (e_and (e_eq hr (e_var (i := 5)) (e_add false (e_var (i := 3)) (e_var (i := 4)))) (e_one (e_call h__law_ends (hr.mono (by decide)) tk (a_cons (e_var (i := 6)) (a_cons (e_var (i := 4)) a_nil)))))))))))))
end
end Lw
namespace Lw
open PySem PySem.Spec PyProof.Rows L2 Am
section
variable {P : Program} {w : World} {K : PySem.W.Frag} {mg : Str → Option Value} {base : Heap}
noncomputable def b_law : MS := (mSeq (mSet 1 (mList true (mCons (mCallB (gListA false) (mCons (mVar 0) mNil)) (mCons (mC (.int 0)) (mCons (mC (.int 0)) (mCons (mC (.int 1)) mNil))))))
  (mSeq (mSet 2 (mLc false [10] (pt1 10) (iRng1M (mCons (mCall m__law_next (mCons (mVar 1) (mCons (mC (.int 3)) mNil))) mNil)) mYes (mCall m__law_next (mCons (mVar 1) (mCons (mC (.int 256)) mNil)))))
  (mSeq (mFor (iAnyM (mList false (mCons (mCall m__law_big (mCons (mVar 1) mNil)) (mCons (mBin gIx (mList false (mCons (mC (.int 127)) (mCons (mC (.int 128)) (mCons (mC (.int 16383)) (mCons (mC (.int 16384)) mNil))))) (mCall m__law_next (mCons (mVar 1) (mCons (mC (.int 4)) mNil)))) mNil)))) (kName 3)
  (mIf (mNot (mTru (mCall m__law_asks (mCons (mC (.str "number")) (mCons (mVar 3) (mCons (mFrz (mCall m_write_number (mCons (mVar 3) mNil))) (mCons (mCall m__law_number (mCons (mVar 3) mNil)) (mCons (mVar 2) mNil))))))))
  (mRet (mC (.bl false)))
  mSkip))
  (mSeq (mSet 4 (mCall m__law_some_path (mCons (mVar 1) mNil)))
  (mSeq (mIf (mNot (mTru (mCall m__law_asks (mCons (mC (.str "path")) (mCons (mVar 4) (mCons (mCall m_write_path (mCons (mVar 4) mNil)) (mCons (mCall m__law_path_code (mCons (mVar 4) mNil)) (mCons (mVar 2) mNil))))))))
  (mRet (mC (.bl false)))
  mSkip)
  (mSeq (mSet 5 (mLc false [10] (pt1 10) (iRng1M (mCons (mCall m__law_next (mCons (mVar 1) (mCons (mC (.int 5)) mNil))) mNil)) mYes (mCall m__law_record (mCons (mVar 1) mNil))))
  (mSeq (mFor (iAnyM (mVar 5)) (kName 6)
  (mIf (mNot (mTru (mCall m__law_asks (mCons (mC (.str "record")) (mCons (mVar 6) (mCons (mCall m_write_record (mCons (mVar 6) mNil)) (mCons (mCall m__law_record_code (mCons (mVar 6) mNil)) (mCons (mVar 2) mNil))))))))
  (mRet (mC (.bl false)))
  mSkip))
  (mSeq (mSet 7 (mCall m__law_listed (mCons (mLc false [6] (pt1 6) (iAnyM (mVar 5)) mYes (mCall m__law_record_code (mCons (mVar 6) mNil))) mNil)))
  (mSeq (mIf (mNot (mTru (mCall m__law_asks (mCons (mC (.str "group")) (mCons (mVar 5) (mCons (mCall m_write_group (mCons (mCallB (gListA false) (mCons (mVar 5) mNil)) mNil)) (mCons (mVar 7) (mCons (mVar 2) mNil))))))))
  (mRet (mC (.bl false)))
  mSkip)
  (mSeq (mSet 8 (mCall m__law_things (mCons (mVar 1) mNil)))
  (mSeq (mSet 9 mDNewK)
  (mSeq (mFor (iRng1M (mCons (mCall m__law_next (mCons (mVar 1) (mCons (mC (.int 4)) mNil))) mNil)) (kName 10)
  (mAsg (mCall m__law_things (mCons (mVar 1) mNil)) (kSub (mVar 9) (mCall m__law_word (mCons (mVar 1) mNil)))))
  (mSeq (mSet 11 (mCall m__law_big (mCons (mVar 1) mNil)))
  (mSeq (mSet 7 (mCall m__law_image_code (mCons (mVar 11) (mCons (mVar 8) (mCons (mVar 9) mNil)))))
  (mSeq (mSet 12 (mMake "Reader" m_Reader___init__ (mCons (mBin (gAdd false) (mVar 7) (mVar 2)) mNil)))
  (mSeq (mSet 13 (mMeth "Reader" "read_image" m_Reader_read_image (mVar 12) (mCons (mC (.int 9)) (mCons (mC (.int 64)) mNil))))
  (mSeq (mIf (mOr (mNot (mTru (mUn (gIsi "tuple") (mVar 13)))) (mOr (mTst (mBin (gEq true) (mCallB gLen (mCons (mVar 13) mNil)) (mC (.int 2)))) (mNot (mTru (mCall m__law_same (mCons (mBin gIx (mVar 13) (mC (.int 0))) (mCons (mVar 11) mNil)))))))
  (mRet (mC (.bl false)))
  mSkip)
  (mSeq (mSet 14 (mCallB gTupOf (mCons (mLc false [15] (pt1 15) (iAnyM (mCallB (gSortA false) (mCons (mCallB (gListA false) (mCons (mVar 9) mNil)) mNil))) mYes (mTup (mCons (mVar 15) (mCons (mCall m__law_item_list (mCons (mBin gIx (mVar 9) (mVar 15)) mNil)) mNil)))) mNil)))
  (mSeq (mIf (mOr (mNot (mTru (mUn (gIsC "State") (mBin gIx (mVar 13) (mC (.int 1)))))) (mNot (mTru (mCall m__law_same (mCons (mMeth "State" "data" m_State_data (mBin gIx (mVar 13) (mC (.int 1))) mNil) (mCons (mTup (mCons (mCall m__law_item_list (mCons (mVar 8) mNil)) (mCons (mVar 14) mNil))) mNil))))))
  (mRet (mC (.bl false)))
  mSkip)
  (mSeq (mIf (mOr (mNot (mTru (mCall m__law_same (mCons (mFld isF "at" (mVar 12)) (mCons (mCallB gLen (mCons (mVar 7) mNil)) mNil))))) (mNot (mTru (mCall m__law_ends (mCons (mVar 12) (mCons (mVar 2) mNil))))))
  (mRet (mC (.bl false)))
  mSkip)
  (mRet (mCall m__law_same (mCons (mCall m_write_image (mCons (mVar 11) (mCons (mBin gIx (mVar 13) (mC (.int 1))) mNil))) (mCons (mVar 7) mNil))))))))))))))))))))))))
noncomputable def m_law : MF := mF 1 16 2 b_law
theorem has_law (T : Txt K mg) : Rw.Has P w K mg base (L2.CX P w) 10 "law" ["_law_script"] (spM ⟨K, mg⟩ m_law) := by
  have h_Reader___init__ := has_Reader___init__ (P := P) (w := w) (base := base) T
  have h_Reader_read_image := has_Reader_read_image (P := P) (w := w) (base := base) T
  have h_State_data := has_State_data (P := P) (w := w) (base := base) T
  have h__law_asks := has__law_asks (P := P) (w := w) (base := base) T
  have h__law_big := has__law_big (P := P) (w := w) (base := base) T
  have h__law_ends := has__law_ends (P := P) (w := w) (base := base) T
  have h__law_image_code := has__law_image_code (P := P) (w := w) (base := base) T
  have h__law_item_list := has__law_item_list (P := P) (w := w) (base := base) T
  have h__law_listed := has__law_listed (P := P) (w := w) (base := base) T
  have h__law_next := has__law_next (P := P) (w := w) (base := base) T
  have h__law_number := has__law_number (P := P) (w := w) (base := base) T
  have h__law_path_code := has__law_path_code (P := P) (w := w) (base := base) T
  have h__law_record := has__law_record (P := P) (w := w) (base := base) T
  have h__law_record_code := has__law_record_code (P := P) (w := w) (base := base) T
  have h__law_same := has__law_same (P := P) (w := w) (base := base) T
  have h__law_some_path := has__law_some_path (P := P) (w := w) (base := base) T
  have h__law_things := has__law_things (P := P) (w := w) (base := base) T
  have h__law_word := has__law_word (P := P) (w := w) (base := base) T
  have h_write_group := has_write_group (P := P) (w := w) (base := base) T
  have h_write_image := has_write_image (P := P) (w := w) (base := base) T
  have h_write_number := has_write_number (P := P) (w := w) (base := base) T
  have h_write_path := has_write_path (P := P) (w := w) (base := base) T
  have h_write_record := has_write_record (P := P) (w := w) (base := base) T
  exact def_has (m := b_law) 1 16 2 T.law sc_law rfl rfl (fun f cdv A outer s H E hr tk => (s_cons (s_set (j := 1) sc_law.nd rfl (by first | exact Or.inl rfl | exact Or.inr rfl) (e_list true (a_cons (e_listA false rfl (a_cons (e_var (i := 0)) a_nil) T.b_list) (a_cons e_int (a_cons e_int (a_cons e_int a_nil))))))
  (s_cons (s_setLc (i := 2) (own := [("_law_k", 10)]) false (pt1_ok 10) rfl sc_law.nd rfl rfl (sw_true rfl rfl rfl (by decide +kernel)) (i_range1 T.b_range (a_cons (e_call h__law_next (hr.mono (by decide)) tk (a_cons (e_var (i := 1)) (a_cons e_int a_nil))) a_nil)) (blkOk_by (own := [("_law_k", 10)]) (N := ["_law_script", "_law_state", "_law_tail", "_law_number_here", "_law_path", "_law_records", "_law_record_here", "_law_due", "_law_things_here", "_law_snapshots", "_law_k", "_law_commits", "_law_reader", "_law_told", "_law_listed_here", "_law_name"]) (sc := defScope (topS 41)) (by decide +kernel)) (fun _ _ _ _ _ => (pg_name (i := 10) sc_law.nd rfl (by first | exact Or.inl rfl | exact Or.inr rfl))) (fun _ _ _ _ _ => ts_nil) (fun _ _ _ _ _ => (e_call h__law_next (hr.mono (by decide)) Am.takes0 (a_cons (e_var (i := 1)) (a_cons e_int a_nil)))))
  (s_cons (s_for (passes_of rfl) rfl (i_any (e_list false (a_cons (e_call h__law_big (hr.mono (by decide)) tk (a_cons (e_var (i := 1)) a_nil)) (a_cons (e_ix hr (e_list false (a_cons e_int (a_cons e_int (a_cons e_int (a_cons e_int a_nil))))) (e_call h__law_next (hr.mono (by decide)) tk (a_cons (e_var (i := 1)) (a_cons e_int a_nil)))) a_nil)))) (g_name (j := 3) sc_law.nd rfl (by first | exact Or.inl rfl | exact Or.inr rfl))
  (s_one (s_if (t_not (t_tru (e_call h__law_asks (hr.mono (by decide)) tk (a_cons e_str (a_cons (e_var (i := 3)) (a_cons (e_frz (e_call h_write_number (hr.mono (by decide)) tk (a_cons (e_var (i := 3)) a_nil))) (a_cons (e_call h__law_number (hr.mono (by decide)) tk (a_cons (e_var (i := 3)) a_nil)) (a_cons (e_var (i := 2)) a_nil))))))))
  (s_one (s_ret e_bl))
  s_nil)))
  (s_cons (s_set (j := 4) sc_law.nd rfl (by first | exact Or.inl rfl | exact Or.inr rfl) (e_call h__law_some_path (hr.mono (by decide)) tk (a_cons (e_var (i := 1)) a_nil)))
  (s_cons (s_if (t_not (t_tru (e_call h__law_asks (hr.mono (by decide)) tk (a_cons e_str (a_cons (e_var (i := 4)) (a_cons (e_call h_write_path (hr.mono (by decide)) tk (a_cons (e_var (i := 4)) a_nil)) (a_cons (e_call h__law_path_code (hr.mono (by decide)) tk (a_cons (e_var (i := 4)) a_nil)) (a_cons (e_var (i := 2)) a_nil))))))))
  (s_one (s_ret e_bl))
  s_nil)
  (s_cons (s_setLc (i := 5) (own := [("_law_k", 10)]) false (pt1_ok 10) rfl sc_law.nd rfl rfl (sw_true rfl rfl rfl (by decide +kernel)) (i_range1 T.b_range (a_cons (e_call h__law_next (hr.mono (by decide)) tk (a_cons (e_var (i := 1)) (a_cons e_int a_nil))) a_nil)) (blkOk_by (own := [("_law_k", 10)]) (N := ["_law_script", "_law_state", "_law_tail", "_law_number_here", "_law_path", "_law_records", "_law_record_here", "_law_due", "_law_things_here", "_law_snapshots", "_law_k", "_law_commits", "_law_reader", "_law_told", "_law_listed_here", "_law_name"]) (sc := defScope (topS 41)) (by decide +kernel)) (fun _ _ _ _ _ => (pg_name (i := 10) sc_law.nd rfl (by first | exact Or.inl rfl | exact Or.inr rfl))) (fun _ _ _ _ _ => ts_nil) (fun _ _ _ _ _ => (e_call h__law_record (hr.mono (by decide)) Am.takes0 (a_cons (e_var (i := 1)) a_nil))))
  (s_cons (s_for (passes_of rfl) rfl (i_any (e_var (i := 5))) (g_name (j := 6) sc_law.nd rfl (by first | exact Or.inl rfl | exact Or.inr rfl))
  (s_one (s_if (t_not (t_tru (e_call h__law_asks (hr.mono (by decide)) tk (a_cons e_str (a_cons (e_var (i := 6)) (a_cons (e_call h_write_record (hr.mono (by decide)) tk (a_cons (e_var (i := 6)) a_nil)) (a_cons (e_call h__law_record_code (hr.mono (by decide)) tk (a_cons (e_var (i := 6)) a_nil)) (a_cons (e_var (i := 2)) a_nil))))))))
  (s_one (s_ret e_bl))
  s_nil)))
  (s_cons (s_set (j := 7) sc_law.nd rfl (by first | exact Or.inl rfl | exact Or.inr rfl) (e_call h__law_listed (hr.mono (by decide)) tk (a_cons (e_lc (own := [("_law_record_here", 6)]) false (pt1_ok 6) rfl sc_law.nd (i_any (e_var (i := 5))) (blkOk_by (own := [("_law_record_here", 6)]) (N := ["_law_script", "_law_state", "_law_tail", "_law_number_here", "_law_path", "_law_records", "_law_record_here", "_law_due", "_law_things_here", "_law_snapshots", "_law_k", "_law_commits", "_law_reader", "_law_told", "_law_listed_here", "_law_name"]) (sc := defScope (topS 41)) (by decide +kernel)) (fun _ _ _ _ _ => (pg_name (i := 6) sc_law.nd rfl (by first | exact Or.inl rfl | exact Or.inr rfl))) (fun _ _ _ _ _ => ts_nil) (fun _ _ _ _ _ => (e_call h__law_record_code (hr.mono (by decide)) Am.takes0 (a_cons (e_var (i := 6)) a_nil)))) a_nil)))
  (s_cons (s_if (t_not (t_tru (e_call h__law_asks (hr.mono (by decide)) tk (a_cons e_str (a_cons (e_var (i := 5)) (a_cons (e_call h_write_group (hr.mono (by decide)) tk (a_cons (e_listA false rfl (a_cons (e_var (i := 5)) a_nil) T.b_list) a_nil)) (a_cons (e_var (i := 7)) (a_cons (e_var (i := 2)) a_nil))))))))
  (s_one (s_ret e_bl))
  s_nil)
  (s_cons (s_set (j := 8) sc_law.nd rfl (by first | exact Or.inl rfl | exact Or.inr rfl) (e_call h__law_things (hr.mono (by decide)) tk (a_cons (e_var (i := 1)) a_nil)))
  (s_cons (s_set (j := 9) sc_law.nd rfl (by first | exact Or.inl rfl | exact Or.inr rfl) e_dnewK)
  (s_cons (s_for (passes_of rfl) rfl (i_range1 T.b_range (a_cons (e_call h__law_next (hr.mono (by decide)) tk (a_cons (e_var (i := 1)) (a_cons e_int a_nil))) a_nil)) (g_name (j := 10) sc_law.nd rfl (by first | exact Or.inl rfl | exact Or.inr rfl))
  (s_one (s_asg (e_call h__law_things (hr.mono (by decide)) tk (a_cons (e_var (i := 1)) a_nil)) (g_sub (W := fun cls d _ H => E cls d H) hr (e_var (i := 9)) (e_call h__law_word (hr.mono (by decide)) tk (a_cons (e_var (i := 1)) a_nil))))))
  (s_cons (s_set (j := 11) sc_law.nd rfl (by first | exact Or.inl rfl | exact Or.inr rfl) (e_call h__law_big (hr.mono (by decide)) tk (a_cons (e_var (i := 1)) a_nil)))
  (s_cons (s_set (j := 7) sc_law.nd rfl (by first | exact Or.inl rfl | exact Or.inr rfl) (e_call h__law_image_code (hr.mono (by decide)) tk (a_cons (e_var (i := 11)) (a_cons (e_var (i := 8)) (a_cons (e_var (i := 9)) a_nil)))))
  (s_cons (s_set (j := 12) sc_law.nd rfl (by first | exact Or.inl rfl | exact Or.inr rfl) (e_make h_Reader___init__ T.mk_Reader (hr.mono (by decide)) tk (a_cons (e_add false (e_var (i := 7)) (e_var (i := 2))) a_nil)))
  (s_cons (s_set (j := 13) sc_law.nd rfl (by first | exact Or.inl rfl | exact Or.inr rfl) (e_meth h_Reader_read_image (hr.mono (by decide)) tk (e_var (i := 12)) (a_cons e_int (a_cons e_int a_nil))))
  (s_cons (s_if (t_bool (w_or (t_not (t_tru (e_isi (e_var (i := 13)) T.b_isinstance T.b_tuple boot_tuple))) (w_or (t_ne hr (e_len (a_cons (e_var (i := 13)) a_nil) T.b_len) e_int) (w_or1 (t_not (t_tru (e_call h__law_same (hr.mono (by decide)) tk (a_cons (e_ix hr (e_var (i := 13)) e_int) (a_cons (e_var (i := 11)) a_nil)))))))))
  (s_one (s_ret e_bl))
  s_nil)
  (s_cons (s_set (j := 14) sc_law.nd rfl (by first | exact Or.inl rfl | exact Or.inr rfl) (e_tuplec (a_cons (e_lc (own := [("_law_name", 15)]) false (pt1_ok 15) rfl sc_law.nd (i_any (e_sortA false hr rfl (a_cons (e_listA false rfl (a_cons (e_var (i := 9)) a_nil) T.b_list) a_nil) T.b_sorted)) (blkOk_by (own := [("_law_name", 15)]) (N := ["_law_script", "_law_state", "_law_tail", "_law_number_here", "_law_path", "_law_records", "_law_record_here", "_law_due", "_law_things_here", "_law_snapshots", "_law_k", "_law_commits", "_law_reader", "_law_told", "_law_listed_here", "_law_name"]) (sc := defScope (topS 41)) (by decide +kernel)) (fun _ _ _ _ _ => (pg_name (i := 15) sc_law.nd rfl (by first | exact Or.inl rfl | exact Or.inr rfl))) (fun _ _ _ _ _ => ts_nil) (fun _ _ _ _ _ => (e_tup (a_cons (e_var (i := 15)) (a_cons (e_call h__law_item_list (hr.mono (by decide)) Am.takes0 (a_cons (e_ix hr (e_var (i := 9)) (e_var (i := 15))) a_nil)) a_nil))))) a_nil) T.b_tuple))
  (s_cons (s_if (t_bool (w_or (t_not (t_tru (e_isC T.in_State (e_ix hr (e_var (i := 13)) e_int) T.b_isinstance))) (w_or1 (t_not (t_tru (e_call h__law_same (hr.mono (by decide)) tk (a_cons (e_meth0 h_State_data (hr.mono (by decide)) tk (e_ix hr (e_var (i := 13)) e_int)) (a_cons (e_tup (a_cons (e_call h__law_item_list (hr.mono (by decide)) tk (a_cons (e_var (i := 8)) a_nil)) (a_cons (e_var (i := 14)) a_nil))) a_nil))))))))
  (s_one (s_ret e_bl))
  s_nil)
  (s_cons (s_if (t_bool (w_or (t_not (t_tru (e_call h__law_same (hr.mono (by decide)) tk (a_cons (e_fld T.fl (e_var (i := 12))) (a_cons (e_len (a_cons (e_var (i := 7)) a_nil) T.b_len) a_nil))))) (w_or1 (t_not (t_tru (e_call h__law_ends (hr.mono (by decide)) tk (a_cons (e_var (i := 12)) (a_cons (e_var (i := 2)) a_nil))))))))
  (s_one (s_ret e_bl))
  s_nil)
  (s_one (s_ret (e_call h__law_same (hr.mono (by decide)) tk (a_cons (e_call h_write_image (hr.mono (by decide)) tk (a_cons (e_var (i := 11)) (a_cons (e_ix hr (e_var (i := 13)) e_int) a_nil))) (a_cons (e_var (i := 7)) a_nil))))))))))))))))))))))))))
end
end Lw
namespace Lw
open PySem PySem.Spec PyProof.Rows L2 Am
section
variable {P : Program} {w : World} {K : PySem.W.Frag} {mg : Str → Option Value} {base : Heap}
/-- the attributes of an instance of Reader -/
def F_Reader (a0 a1 : A) : List (Str × A) := [("data", a0), ("at", a1)]
theorem lk_Reader_0 (a0 a1 : A) : List.lookup ("data" : Str) (F_Reader a0 a1) = some a0 := rfl
theorem pm_Reader_0 (a0 a1 b : A) : putM "data" b (F_Reader a0 a1) = F_Reader b a1 := rfl
theorem if_Reader_0 : isF "Reader" "data" = true := by decide +kernel
theorem fr_Reader_0 (a0 a1 : A) (st : Store) : fldI isF "data" (some ("Reader", F_Reader a0 a1)) st = .ok a0 st := by rw [fldI_some isF _ _ _ _ if_Reader_0, lk_Reader_0]; rfl
theorem fw_Reader_0 (a0 a1 b : A) (i : Nat) (σ : Slots) (st : Store) : fsC isF "data" (some (.ins "Reader" (F_Reader a0 a1))) i b σ st = .nx σ (st.set i (.ins "Reader" (F_Reader b a1))) := fsC_ins isF _ _ _ _ _ _ _ ⟨if_Reader_0, by show (2 : Nat) < 1000; decide⟩
theorem fa_Reader_0 (a0 a1 b c0 c1 : A) (i : Nat) (σ : Slots) (st : Store) : faC isF "data" (some (.ins "Reader" (F_Reader a0 a1))) (some (.ins "Reader" (F_Reader c0 c1))) i b σ st = .nx σ (st.set i (.ins "Reader" (F_Reader b a1))) := faC_ins isF _ _ _ _ _ _ _ _ ⟨if_Reader_0, by show (2 : Nat) < 1000; decide⟩ rfl
theorem lk_Reader_1 (a0 a1 : A) : List.lookup ("at" : Str) (F_Reader a0 a1) = some a1 := rfl
theorem pm_Reader_1 (a0 a1 b : A) : putM "at" b (F_Reader a0 a1) = F_Reader a0 b := rfl
theorem if_Reader_1 : isF "Reader" "at" = true := by decide +kernel
theorem fr_Reader_1 (a0 a1 : A) (st : Store) : fldI isF "at" (some ("Reader", F_Reader a0 a1)) st = .ok a1 st := by rw [fldI_some isF _ _ _ _ if_Reader_1, lk_Reader_1]; rfl
theorem fw_Reader_1 (a0 a1 b : A) (i : Nat) (σ : Slots) (st : Store) : fsC isF "at" (some (.ins "Reader" (F_Reader a0 a1))) i b σ st = .nx σ (st.set i (.ins "Reader" (F_Reader a0 b))) := fsC_ins isF _ _ _ _ _ _ _ ⟨if_Reader_1, by show (2 : Nat) < 1000; decide⟩
theorem fa_Reader_1 (a0 a1 b c0 c1 : A) (i : Nat) (σ : Slots) (st : Store) : faC isF "at" (some (.ins "Reader" (F_Reader a0 a1))) (some (.ins "Reader" (F_Reader c0 c1))) i b σ st = .nx σ (st.set i (.ins "Reader" (F_Reader a0 b))) := faC_ins isF _ _ _ _ _ _ _ _ ⟨if_Reader_1, by show (2 : Nat) < 1000; decide⟩ rfl
theorem lm_Reader_init (a0 a1 : A) : List.lookup ("__init__" : Str) (F_Reader a0 a1) = none := rfl
theorem mi_Reader_init (a0 a1 a : A) (f : MF) (fs : MA) (σ : Slots) (st : Store) : methI "Reader" "__init__" f (some ("Reader", F_Reader a0 a1)) a fs σ st = callA f a (fs σ st) := methI_some _ _ _ _ _ _ _ _ rfl
theorem lm_Reader_read_byte (a0 a1 : A) : List.lookup ("read_byte" : Str) (F_Reader a0 a1) = none := rfl
theorem mi_Reader_read_byte (a0 a1 a : A) (f : MF) (fs : MA) (σ : Slots) (st : Store) : methI "Reader" "read_byte" f (some ("Reader", F_Reader a0 a1)) a fs σ st = callA f a (fs σ st) := methI_some _ _ _ _ _ _ _ _ rfl
theorem lm_Reader_read_choice (a0 a1 : A) : List.lookup ("read_choice" : Str) (F_Reader a0 a1) = none := rfl
theorem mi_Reader_read_choice (a0 a1 a : A) (f : MF) (fs : MA) (σ : Slots) (st : Store) : methI "Reader" "read_choice" f (some ("Reader", F_Reader a0 a1)) a fs σ st = callA f a (fs σ st) := methI_some _ _ _ _ _ _ _ _ rfl
theorem lm_Reader_read_number (a0 a1 : A) : List.lookup ("read_number" : Str) (F_Reader a0 a1) = none := rfl
theorem mi_Reader_read_number (a0 a1 a : A) (f : MF) (fs : MA) (σ : Slots) (st : Store) : methI "Reader" "read_number" f (some ("Reader", F_Reader a0 a1)) a fs σ st = callA f a (fs σ st) := methI_some _ _ _ _ _ _ _ _ rfl
theorem lm_Reader_read_count (a0 a1 : A) : List.lookup ("read_count" : Str) (F_Reader a0 a1) = none := rfl
theorem mi_Reader_read_count (a0 a1 a : A) (f : MF) (fs : MA) (σ : Slots) (st : Store) : methI "Reader" "read_count" f (some ("Reader", F_Reader a0 a1)) a fs σ st = callA f a (fs σ st) := methI_some _ _ _ _ _ _ _ _ rfl
theorem lm_Reader_read_numbers (a0 a1 : A) : List.lookup ("read_numbers" : Str) (F_Reader a0 a1) = none := rfl
theorem mi_Reader_read_numbers (a0 a1 a : A) (f : MF) (fs : MA) (σ : Slots) (st : Store) : methI "Reader" "read_numbers" f (some ("Reader", F_Reader a0 a1)) a fs σ st = callA f a (fs σ st) := methI_some _ _ _ _ _ _ _ _ rfl
theorem lm_Reader_read_name (a0 a1 : A) : List.lookup ("read_name" : Str) (F_Reader a0 a1) = none := rfl
theorem mi_Reader_read_name (a0 a1 a : A) (f : MF) (fs : MA) (σ : Slots) (st : Store) : methI "Reader" "read_name" f (some ("Reader", F_Reader a0 a1)) a fs σ st = callA f a (fs σ st) := methI_some _ _ _ _ _ _ _ _ rfl
theorem lm_Reader_read_path (a0 a1 : A) : List.lookup ("read_path" : Str) (F_Reader a0 a1) = none := rfl
theorem mi_Reader_read_path (a0 a1 a : A) (f : MF) (fs : MA) (σ : Slots) (st : Store) : methI "Reader" "read_path" f (some ("Reader", F_Reader a0 a1)) a fs σ st = callA f a (fs σ st) := methI_some _ _ _ _ _ _ _ _ rfl
theorem lm_Reader_read_pair (a0 a1 : A) : List.lookup ("read_pair" : Str) (F_Reader a0 a1) = none := rfl
theorem mi_Reader_read_pair (a0 a1 a : A) (f : MF) (fs : MA) (σ : Slots) (st : Store) : methI "Reader" "read_pair" f (some ("Reader", F_Reader a0 a1)) a fs σ st = callA f a (fs σ st) := methI_some _ _ _ _ _ _ _ _ rfl
theorem lm_Reader_read_record (a0 a1 : A) : List.lookup ("read_record" : Str) (F_Reader a0 a1) = none := rfl
theorem mi_Reader_read_record (a0 a1 a : A) (f : MF) (fs : MA) (σ : Slots) (st : Store) : methI "Reader" "read_record" f (some ("Reader", F_Reader a0 a1)) a fs σ st = callA f a (fs σ st) := methI_some _ _ _ _ _ _ _ _ rfl
theorem lm_Reader_read_group (a0 a1 : A) : List.lookup ("read_group" : Str) (F_Reader a0 a1) = none := rfl
theorem mi_Reader_read_group (a0 a1 a : A) (f : MF) (fs : MA) (σ : Slots) (st : Store) : methI "Reader" "read_group" f (some ("Reader", F_Reader a0 a1)) a fs σ st = callA f a (fs σ st) := methI_some _ _ _ _ _ _ _ _ rfl
theorem lm_Reader_read_thing (a0 a1 : A) : List.lookup ("read_thing" : Str) (F_Reader a0 a1) = none := rfl
theorem mi_Reader_read_thing (a0 a1 a : A) (f : MF) (fs : MA) (σ : Slots) (st : Store) : methI "Reader" "read_thing" f (some ("Reader", F_Reader a0 a1)) a fs σ st = callA f a (fs σ st) := methI_some _ _ _ _ _ _ _ _ rfl
theorem lm_Reader_read_things (a0 a1 : A) : List.lookup ("read_things" : Str) (F_Reader a0 a1) = none := rfl
theorem mi_Reader_read_things (a0 a1 a : A) (f : MF) (fs : MA) (σ : Slots) (st : Store) : methI "Reader" "read_things" f (some ("Reader", F_Reader a0 a1)) a fs σ st = callA f a (fs σ st) := methI_some _ _ _ _ _ _ _ _ rfl
theorem lm_Reader_read_image (a0 a1 : A) : List.lookup ("read_image" : Str) (F_Reader a0 a1) = none := rfl
theorem mi_Reader_read_image (a0 a1 a : A) (f : MF) (fs : MA) (σ : Slots) (st : Store) : methI "Reader" "read_image" f (some ("Reader", F_Reader a0 a1)) a fs σ st = callA f a (fs σ st) := methI_some _ _ _ _ _ _ _ _ rfl
theorem lm_Reader_end (a0 a1 : A) : List.lookup ("end" : Str) (F_Reader a0 a1) = none := rfl
theorem mi_Reader_end (a0 a1 a : A) (f : MF) (fs : MA) (σ : Slots) (st : Store) : methI "Reader" "end" f (some ("Reader", F_Reader a0 a1)) a fs σ st = callA f a (fs σ st) := methI_some _ _ _ _ _ _ _ _ rfl
theorem fn_Reader_0 (b : A) (i : Nat) (σ : Slots) (st : Store) : fsC isF "data" (some (.ins "Reader" [])) i b σ st = .nx σ (st.set i (.ins "Reader" (([("data", b)] : List (Str × A))))) := fsC_ins isF _ _ _ _ _ _ _ ⟨if_Reader_0, by show (0 : Nat) < 1000; decide⟩
theorem fn_Reader_1 (a0 b : A) (i : Nat) (σ : Slots) (st : Store) : fsC isF "at" (some (.ins "Reader" [("data", a0)])) i b σ st = .nx σ (st.set i (.ins "Reader" (F_Reader a0 b))) := fsC_ins isF _ _ _ _ _ _ _ ⟨if_Reader_1, by show (1 : Nat) < 1000; decide⟩
/-- the attributes of an instance of State -/
def F_State (a0 a1 a2 a3 : A) : List (Str × A) := [("stripes", a0), ("block", a1), ("things", a2), ("snapshots", a3)]
theorem lk_State_0 (a0 a1 a2 a3 : A) : List.lookup ("stripes" : Str) (F_State a0 a1 a2 a3) = some a0 := rfl
theorem pm_State_0 (a0 a1 a2 a3 b : A) : putM "stripes" b (F_State a0 a1 a2 a3) = F_State b a1 a2 a3 := rfl
theorem if_State_0 : isF "State" "stripes" = true := by decide +kernel
theorem fr_State_0 (a0 a1 a2 a3 : A) (st : Store) : fldI isF "stripes" (some ("State", F_State a0 a1 a2 a3)) st = .ok a0 st := by rw [fldI_some isF _ _ _ _ if_State_0, lk_State_0]; rfl
theorem fw_State_0 (a0 a1 a2 a3 b : A) (i : Nat) (σ : Slots) (st : Store) : fsC isF "stripes" (some (.ins "State" (F_State a0 a1 a2 a3))) i b σ st = .nx σ (st.set i (.ins "State" (F_State b a1 a2 a3))) := fsC_ins isF _ _ _ _ _ _ _ ⟨if_State_0, by show (4 : Nat) < 1000; decide⟩
theorem fa_State_0 (a0 a1 a2 a3 b c0 c1 c2 c3 : A) (i : Nat) (σ : Slots) (st : Store) : faC isF "stripes" (some (.ins "State" (F_State a0 a1 a2 a3))) (some (.ins "State" (F_State c0 c1 c2 c3))) i b σ st = .nx σ (st.set i (.ins "State" (F_State b a1 a2 a3))) := faC_ins isF _ _ _ _ _ _ _ _ ⟨if_State_0, by show (4 : Nat) < 1000; decide⟩ rfl
theorem lk_State_1 (a0 a1 a2 a3 : A) : List.lookup ("block" : Str) (F_State a0 a1 a2 a3) = some a1 := rfl
theorem pm_State_1 (a0 a1 a2 a3 b : A) : putM "block" b (F_State a0 a1 a2 a3) = F_State a0 b a2 a3 := rfl
theorem if_State_1 : isF "State" "block" = true := by decide +kernel
theorem fr_State_1 (a0 a1 a2 a3 : A) (st : Store) : fldI isF "block" (some ("State", F_State a0 a1 a2 a3)) st = .ok a1 st := by rw [fldI_some isF _ _ _ _ if_State_1, lk_State_1]; rfl
theorem fw_State_1 (a0 a1 a2 a3 b : A) (i : Nat) (σ : Slots) (st : Store) : fsC isF "block" (some (.ins "State" (F_State a0 a1 a2 a3))) i b σ st = .nx σ (st.set i (.ins "State" (F_State a0 b a2 a3))) := fsC_ins isF _ _ _ _ _ _ _ ⟨if_State_1, by show (4 : Nat) < 1000; decide⟩
theorem fa_State_1 (a0 a1 a2 a3 b c0 c1 c2 c3 : A) (i : Nat) (σ : Slots) (st : Store) : faC isF "block" (some (.ins "State" (F_State a0 a1 a2 a3))) (some (.ins "State" (F_State c0 c1 c2 c3))) i b σ st = .nx σ (st.set i (.ins "State" (F_State a0 b a2 a3))) := faC_ins isF _ _ _ _ _ _ _ _ ⟨if_State_1, by show (4 : Nat) < 1000; decide⟩ rfl
theorem lk_State_2 (a0 a1 a2 a3 : A) : List.lookup ("things" : Str) (F_State a0 a1 a2 a3) = some a2 := rfl
theorem pm_State_2 (a0 a1 a2 a3 b : A) : putM "things" b (F_State a0 a1 a2 a3) = F_State a0 a1 b a3 := rfl
theorem if_State_2 : isF "State" "things" = true := by decide +kernel
theorem fr_State_2 (a0 a1 a2 a3 : A) (st : Store) : fldI isF "things" (some ("State", F_State a0 a1 a2 a3)) st = .ok a2 st := by rw [fldI_some isF _ _ _ _ if_State_2, lk_State_2]; rfl
theorem fw_State_2 (a0 a1 a2 a3 b : A) (i : Nat) (σ : Slots) (st : Store) : fsC isF "things" (some (.ins "State" (F_State a0 a1 a2 a3))) i b σ st = .nx σ (st.set i (.ins "State" (F_State a0 a1 b a3))) := fsC_ins isF _ _ _ _ _ _ _ ⟨if_State_2, by show (4 : Nat) < 1000; decide⟩
theorem fa_State_2 (a0 a1 a2 a3 b c0 c1 c2 c3 : A) (i : Nat) (σ : Slots) (st : Store) : faC isF "things" (some (.ins "State" (F_State a0 a1 a2 a3))) (some (.ins "State" (F_State c0 c1 c2 c3))) i b σ st = .nx σ (st.set i (.ins "State" (F_State a0 a1 b a3))) := faC_ins isF _ _ _ _ _ _ _ _ ⟨if_State_2, by show (4 : Nat) < 1000; decide⟩ rfl
theorem lk_State_3 (a0 a1 a2 a3 : A) : List.lookup ("snapshots" : Str) (F_State a0 a1 a2 a3) = some a3 := rfl
theorem pm_State_3 (a0 a1 a2 a3 b : A) : putM "snapshots" b (F_State a0 a1 a2 a3) = F_State a0 a1 a2 b := rfl
theorem if_State_3 : isF "State" "snapshots" = true := by decide +kernel
theorem fr_State_3 (a0 a1 a2 a3 : A) (st : Store) : fldI isF "snapshots" (some ("State", F_State a0 a1 a2 a3)) st = .ok a3 st := by rw [fldI_some isF _ _ _ _ if_State_3, lk_State_3]; rfl
theorem fw_State_3 (a0 a1 a2 a3 b : A) (i : Nat) (σ : Slots) (st : Store) : fsC isF "snapshots" (some (.ins "State" (F_State a0 a1 a2 a3))) i b σ st = .nx σ (st.set i (.ins "State" (F_State a0 a1 a2 b))) := fsC_ins isF _ _ _ _ _ _ _ ⟨if_State_3, by show (4 : Nat) < 1000; decide⟩
theorem fa_State_3 (a0 a1 a2 a3 b c0 c1 c2 c3 : A) (i : Nat) (σ : Slots) (st : Store) : faC isF "snapshots" (some (.ins "State" (F_State a0 a1 a2 a3))) (some (.ins "State" (F_State c0 c1 c2 c3))) i b σ st = .nx σ (st.set i (.ins "State" (F_State a0 a1 a2 b))) := faC_ins isF _ _ _ _ _ _ _ _ ⟨if_State_3, by show (4 : Nat) < 1000; decide⟩ rfl
theorem lm_State_init (a0 a1 a2 a3 : A) : List.lookup ("__init__" : Str) (F_State a0 a1 a2 a3) = none := rfl
theorem mi_State_init (a0 a1 a2 a3 a : A) (f : MF) (fs : MA) (σ : Slots) (st : Store) : methI "State" "__init__" f (some ("State", F_State a0 a1 a2 a3)) a fs σ st = callA f a (fs σ st) := methI_some _ _ _ _ _ _ _ _ rfl
theorem lm_State_copy (a0 a1 a2 a3 : A) : List.lookup ("copy" : Str) (F_State a0 a1 a2 a3) = none := rfl
theorem mi_State_copy (a0 a1 a2 a3 a : A) (f : MF) (fs : MA) (σ : Slots) (st : Store) : methI "State" "copy" f (some ("State", F_State a0 a1 a2 a3)) a fs σ st = callA f a (fs σ st) := methI_some _ _ _ _ _ _ _ _ rfl
theorem lm_State_used (a0 a1 a2 a3 : A) : List.lookup ("used" : Str) (F_State a0 a1 a2 a3) = none := rfl
theorem mi_State_used (a0 a1 a2 a3 a : A) (f : MF) (fs : MA) (σ : Slots) (st : Store) : methI "State" "used" f (some ("State", F_State a0 a1 a2 a3)) a fs σ st = callA f a (fs σ st) := methI_some _ _ _ _ _ _ _ _ rfl
theorem lm_State_after (a0 a1 a2 a3 : A) : List.lookup ("after" : Str) (F_State a0 a1 a2 a3) = none := rfl
theorem mi_State_after (a0 a1 a2 a3 a : A) (f : MF) (fs : MA) (σ : Slots) (st : Store) : methI "State" "after" f (some ("State", F_State a0 a1 a2 a3)) a fs σ st = callA f a (fs σ st) := methI_some _ _ _ _ _ _ _ _ rfl
theorem lm_State_data (a0 a1 a2 a3 : A) : List.lookup ("data" : Str) (F_State a0 a1 a2 a3) = none := rfl
theorem mi_State_data (a0 a1 a2 a3 a : A) (f : MF) (fs : MA) (σ : Slots) (st : Store) : methI "State" "data" f (some ("State", F_State a0 a1 a2 a3)) a fs σ st = callA f a (fs σ st) := methI_some _ _ _ _ _ _ _ _ rfl
theorem fn_State_0 (b : A) (i : Nat) (σ : Slots) (st : Store) : fsC isF "stripes" (some (.ins "State" [])) i b σ st = .nx σ (st.set i (.ins "State" (([("stripes", b)] : List (Str × A))))) := fsC_ins isF _ _ _ _ _ _ _ ⟨if_State_0, by show (0 : Nat) < 1000; decide⟩
theorem fn_State_1 (a0 b : A) (i : Nat) (σ : Slots) (st : Store) : fsC isF "block" (some (.ins "State" [("stripes", a0)])) i b σ st = .nx σ (st.set i (.ins "State" (([("stripes", a0), ("block", b)] : List (Str × A))))) := fsC_ins isF _ _ _ _ _ _ _ ⟨if_State_1, by show (1 : Nat) < 1000; decide⟩
theorem fn_State_2 (a0 a1 b : A) (i : Nat) (σ : Slots) (st : Store) : fsC isF "things" (some (.ins "State" [("stripes", a0), ("block", a1)])) i b σ st = .nx σ (st.set i (.ins "State" (([("stripes", a0), ("block", a1), ("things", b)] : List (Str × A))))) := fsC_ins isF _ _ _ _ _ _ _ ⟨if_State_2, by show (2 : Nat) < 1000; decide⟩
theorem fn_State_3 (a0 a1 a2 b : A) (i : Nat) (σ : Slots) (st : Store) : fsC isF "snapshots" (some (.ins "State" [("stripes", a0), ("block", a1), ("things", a2)])) i b σ st = .nx σ (st.set i (.ins "State" (F_State a0 a1 a2 b))) := fsC_ins isF _ _ _ _ _ _ _ ⟨if_State_3, by show (3 : Nat) < 1000; decide⟩
end
end Lw
local macro_rules | `(tactic| walk_at "len") => `(tactic| (simp only [List.length_map, List.length_append, List.length_cons, List.length_nil, List.length_replicate, List.length_range, List.length_take, List.length_drop, List.length_reverse, List.length_set]))
local macro_rules | `(tactic| walk_at "dis") => `(tactic| first
  | assumption
  | (show (_ : Nat) ≠ _; exact Ne.symm (by assumption))
  | (show (_ : Nat) < List.length _; (simp only [List.length_set, List.length_append]); first | assumption | omega)
  | exact Am.cdivA _ (by decide)
  | (show Am.CDivA _ _; exact Am.cdivA _ ⟨by omega, by omega⟩)
  | exact Am.cmulR _ (by decide)
  | exact Am.cmulL _ (by decide)
  | exact Am.cmulR _ ⟨by omega, by omega⟩
  | exact Am.cmulL _ ⟨by omega, by omega⟩
  | (show (_ : Int) < _; first | decide | omega)
  | (show L2.CPow _ _; decide)
  | (show (_ : Nat) ≤ Am.SZ; unfold Am.SZ; (try walk_at "len"); omega)
  | (show (_ : Nat) < Am.SZ; unfold Am.SZ; (try walk_at "len"); omega)
  | (refine And.intro ?_ ?_ <;> first | omega | decide | ((walk_at "len"); omega))
  | (refine And.intro ?_ (And.intro ?_ ?_) <;> first | omega | decide | (show (_ : Nat) ≤ Am.SZ; unfold Am.SZ; (try walk_at "len"); omega))
  | exact rfl)
local macro_rules | `(tactic| walk_at "ev") => `(tactic| simp (config := { implicitDefEqProofs := false }) (disch := walk_at "dis") only [Am.gFld_ap, Am.viewI_c, Am.mFld_ap, Am.mFS_ap, Am.fsR_ok, Am.fs2_ok, Am.mMeth_ap, Am.methO_ok, Am.callA_ok, Am.madeR_ok, Am.mMake_ap, Am.makeR_ok, Am.mRaise_ap, Am.gIsi_ii, Am.gIsi_ib, Am.loc_assoc, Am.mFA_ap, Am.fa1_ok, Am.fa2_ok, Am.fa3_ok, Am.fa4_ok, Am.fa5_c, Am.mDNewK_ap, Am.mDNewT_ap, Am.mTry_ap, Am.tryO_ex, Am.tryB_t, Am.tryO_nx, Am.tryO_rt, Am.noExO_nx, Am.noExO_rt, Am.need_T, Am.ifc_T, Am.needO_T, Am.gEq_ni, Am.gEq_bf, Am.gEq_bt, Am.iAny_ap, Am.anyR_l, Am.anyR_t, Am.anyR_kt, Am.anyR_s, Am.anyR_c, Am.mMethS_ap, Am.methS2_ok, Lw.fa_Reader_0, Lw.pm_Reader_0, Lw.fr_Reader_0, Lw.fw_Reader_0, Lw.fa_Reader_1, Lw.pm_Reader_1, Lw.fr_Reader_1, Lw.fw_Reader_1, Lw.mi_Reader_init, Lw.mi_Reader_read_byte, Lw.mi_Reader_read_choice, Lw.mi_Reader_read_number, Lw.mi_Reader_read_count, Lw.mi_Reader_read_numbers, Lw.mi_Reader_read_name, Lw.mi_Reader_read_path, Lw.mi_Reader_read_pair, Lw.mi_Reader_read_record, Lw.mi_Reader_read_group, Lw.mi_Reader_read_thing, Lw.mi_Reader_read_things, Lw.mi_Reader_read_image, Lw.mi_Reader_end, Lw.fn_Reader_0, Lw.fn_Reader_1, Lw.fa_State_0, Lw.pm_State_0, Lw.fr_State_0, Lw.fw_State_0, Lw.fa_State_1, Lw.pm_State_1, Lw.fr_State_1, Lw.fw_State_1, Lw.fa_State_2, Lw.pm_State_2, Lw.fr_State_2, Lw.fw_State_2, Lw.fa_State_3, Lw.pm_State_3, Lw.fr_State_3, Lw.fw_State_3, Lw.mi_State_init, Lw.mi_State_copy, Lw.mi_State_used, Lw.mi_State_after, Lw.mi_State_data, Lw.fn_State_0, Lw.fn_State_1, Lw.fn_State_2, Lw.fn_State_3, Am.mF_0, Am.mF_1, Am.mF_2, Am.mF_3, Am.mF_4, Am.mF_5, Am.mF_6, Am.mF_7, Am.mF_8, Am.endR_nx, Am.endR_rt, Am.endR_ex0, Am.mSeq_ap, Am.seqO_nx, Am.binR_ok, Am.bin2_ok, Am.consR_ok, Am.cons2_ok, Am.tstR_ok, Am.setO_ok, Am.setO_ex, Am.retO_ok, Am.retO_ex, Am.doO_ok, Am.doO_ex, Am.slR_ok, Am.sl2_ok, Am.sl3_ok, Am.partR_ok, Am.methR_ok, Am.meth2_ok, Am.forO_ok, Am.augO_ok, Am.aug2_ok, Am.seqO_rt, Am.seqO_bk, Am.seqO_ct, Am.seqO_ex, Am.ifO_t, Am.ifO_f, Am.ifO_ex, Am.andR_t, Am.andR_f, Am.orR_t, Am.orR_f, Am.iteR_t, Am.iteR_f, Am.andV_t, Am.andV_f, Am.orV_t, Am.orV_f, Am.mSet_ap, Am.mRet_ap, Am.mRetN, Am.mIf_ap, Am.mDo_ap, Am.mAsg_ap, Am.asgO_ok, Am.asg2_some, Am.mTrunc_ap, Am.trO_nx, Am.trO_nx0, Am.trO_ct, Am.trO_ct0, Am.trO_rt, Am.trO_ex, Am.keepA_d, Am.keepA_n, Am.keepA_0, Am.keepA_k, Am.mPar, Am.mSkip, Am.mCnt, Am.mBrk, Am.mFor_ap, Am.mAug_ap, Am.mAugS, Am.mVar, Am.mC, Am.mBin_ap, Am.mUn, Am.mCall_ap, Am.mCallB_ap, Am.mCons_ap, Am.mNil, Am.mList_ap, Am.mTup_ap, Am.mTst_ap, Am.mTru_ap, Am.truR_n, Am.truR_b, Am.truR_i, Am.truR_l, Am.truR_s, Am.truR_t, Am.truR_c, Am.truC_l, Am.mNot_ap, Am.notR_ok, Am.mAnd_ap, Am.mOr_ap, Am.mIfE_ap, Am.mNotV_ap, Am.notV_b, Am.mAndV_ap, Am.mOrV_ap, Am.mChain_ap, Am.ch1_ok, Am.ch2_ok, Am.chR_t, Am.chR_f, Am.mSl_ap, Am.mNoPart, Am.mPart_ap, Am.mMethL_ap, Am.mFrz, Am.mYes,
  Am.kName, Am.kTup, Am.kCons, Am.kNil, Am.kSub_ap, Am.subR_ok, Am.sub2_ok, Am.bind_ok, Am.bind_ex, Am.lift_ok, Am.lift_ex, Am.iListM, Am.iTupM, Am.iRng1M, Am.iRng2M, Am.gI0, Am.gI, Am.gNeg, Am.gInt, Am.gMin, Am.gMax,
  Am.gAdd_i, Am.gAdd_l, Am.gAdd_t, Am.gAdd_cl, Am.gAdd_lc, Am.gAdd_s, Am.gMul_i, Am.gMul_l, Am.viewL_l, Am.viewL_c, Am.viewS_l, Am.viewS_s, Am.viewS_c, Am.viewS_t, Am.viewS_kt, Am.viewS_str, Am.viewT_t, Am.viewT_kt, Am.gLen_l, Am.gLen_s, Am.gLen_t, Am.gLen_kt, Am.gLen_c, Am.lenC_l, Am.lenC_fl, Am.lenC_k, Am.lenC_t, Am.ixC_l, Am.ixC_fl, Am.gListOf_l, Am.gListOf_s, Am.gListOf_t, Am.gListOf_kt, Am.gListOf_c, Am.gTupOf_l, Am.gTupOf_t, Am.gTupOf_c, Am.gIx_l, Am.gIx_s, Am.gIx_t, Am.gIx_kt, Am.gIx_c, Am.gSl_l, Am.gSl_t, Am.gSl_c, Am.gRev_l, Am.gRev_c, Am.atI_0, Am.atI_1, Am.atI_2, Am.atI_3, Am.atI_4, Am.atI_5, Am.gIs_n, Am.gIs_l, Am.gIs_t, Am.gIs_i, Am.gIs_s, Am.gIs_kt, Am.gEq_if, Am.gEq_it, Am.gIs_c, Am.gIs_b, Am.frz_d, Am.gAppend, Am.gExtend, Am.gPopAt, Am.gSet, Am.gIxM,
  Am.need_pos, Am.ifc_pos, Am.needO_true, Am.truthA, Am.truthD, Am.mkL_c, Am.mkL_e, Am.mkT_e, Am.allD, Am.allD_map, Am.allD_append, Option.bind_some, List.getElem?_set_self, List.getElem?_set_ne, List.set_set, List.length_map, List.length_range, Int.toNat_natCast, Am.loc_get, Am.loc_get0, Am.loc_set, Am.loc_set0, Am.loc_push, Am.loc_len, Am.exit2_d, Am.exit2_d0, Am.exitR_0, Am.turn, Am.nxt_nx, Am.nxt_ct,
  List.length_cons, List.length_nil, List.map_cons, List.map_nil, List.cons_append, List.nil_append, List.replicate_succ, List.replicate_zero, List.getElem?_cons_zero, List.getElem?_cons_succ, List.getElem?_nil, List.set_cons_zero, List.set_cons_succ, List.append_nil, List.isEmpty_nil, List.isEmpty_cons, Nat.reduceAdd, Nat.reduceSub, Nat.add_zero, Nat.zero_add, if_pos, if_true, if_false, Bool.false_eq_true, Bool.not_true, Bool.true_and, Bool.and_true, Bool.false_and, Bool.and_false, Bool.not_false, Option.map_some, Option.map_none, decide_true, decide_false, ite_true, ite_false])
local macro_rules | `(tactic| walk_at "ev*") => `(tactic| simp (config := { implicitDefEqProofs := false }) (disch := walk_at "dis") only [Am.gFld_ap, Am.viewI_c, Am.mFld_ap, Am.mFS_ap, Am.fsR_ok, Am.fs2_ok, Am.mMeth_ap, Am.methO_ok, Am.callA_ok, Am.madeR_ok, Am.mMake_ap, Am.makeR_ok, Am.mRaise_ap, Am.gIsi_ii, Am.gIsi_ib, Am.loc_assoc, Am.mFA_ap, Am.fa1_ok, Am.fa2_ok, Am.fa3_ok, Am.fa4_ok, Am.fa5_c, Am.mDNewK_ap, Am.mDNewT_ap, Am.mTry_ap, Am.tryO_ex, Am.tryB_t, Am.tryO_nx, Am.tryO_rt, Am.noExO_nx, Am.noExO_rt, Am.need_T, Am.ifc_T, Am.needO_T, Am.gEq_ni, Am.gEq_bf, Am.gEq_bt, Am.iAny_ap, Am.anyR_l, Am.anyR_t, Am.anyR_kt, Am.anyR_s, Am.anyR_c, Am.mMethS_ap, Am.methS2_ok, Lw.fa_Reader_0, Lw.pm_Reader_0, Lw.fr_Reader_0, Lw.fw_Reader_0, Lw.fa_Reader_1, Lw.pm_Reader_1, Lw.fr_Reader_1, Lw.fw_Reader_1, Lw.mi_Reader_init, Lw.mi_Reader_read_byte, Lw.mi_Reader_read_choice, Lw.mi_Reader_read_number, Lw.mi_Reader_read_count, Lw.mi_Reader_read_numbers, Lw.mi_Reader_read_name, Lw.mi_Reader_read_path, Lw.mi_Reader_read_pair, Lw.mi_Reader_read_record, Lw.mi_Reader_read_group, Lw.mi_Reader_read_thing, Lw.mi_Reader_read_things, Lw.mi_Reader_read_image, Lw.mi_Reader_end, Lw.fn_Reader_0, Lw.fn_Reader_1, Lw.fa_State_0, Lw.pm_State_0, Lw.fr_State_0, Lw.fw_State_0, Lw.fa_State_1, Lw.pm_State_1, Lw.fr_State_1, Lw.fw_State_1, Lw.fa_State_2, Lw.pm_State_2, Lw.fr_State_2, Lw.fw_State_2, Lw.fa_State_3, Lw.pm_State_3, Lw.fr_State_3, Lw.fw_State_3, Lw.mi_State_init, Lw.mi_State_copy, Lw.mi_State_used, Lw.mi_State_after, Lw.mi_State_data, Lw.fn_State_0, Lw.fn_State_1, Lw.fn_State_2, Lw.fn_State_3, Am.mF_0, Am.mF_1, Am.mF_2, Am.mF_3, Am.mF_4, Am.mF_5, Am.mF_6, Am.mF_7, Am.mF_8, Am.endR_nx, Am.endR_rt, Am.endR_ex0, Am.mSeq_ap, Am.seqO_nx, Am.binR_ok, Am.bin2_ok, Am.consR_ok, Am.cons2_ok, Am.tstR_ok, Am.setO_ok, Am.setO_ex, Am.retO_ok, Am.retO_ex, Am.doO_ok, Am.doO_ex, Am.slR_ok, Am.sl2_ok, Am.sl3_ok, Am.partR_ok, Am.methR_ok, Am.meth2_ok, Am.forO_ok, Am.augO_ok, Am.aug2_ok, Am.seqO_rt, Am.seqO_bk, Am.seqO_ct, Am.seqO_ex, Am.ifO_t, Am.ifO_f, Am.ifO_ex, Am.andR_t, Am.andR_f, Am.orR_t, Am.orR_f, Am.iteR_t, Am.iteR_f, Am.andV_t, Am.andV_f, Am.orV_t, Am.orV_f, Am.mSet_ap, Am.mRet_ap, Am.mRetN, Am.mIf_ap, Am.mDo_ap, Am.mAsg_ap, Am.asgO_ok, Am.asg2_some, Am.mTrunc_ap, Am.trO_nx, Am.trO_nx0, Am.trO_ct, Am.trO_ct0, Am.trO_rt, Am.trO_ex, Am.keepA_d, Am.keepA_n, Am.keepA_0, Am.keepA_k, Am.mPar, Am.mSkip, Am.mCnt, Am.mBrk, Am.mFor_ap, Am.mAug_ap, Am.mAugS, Am.mVar, Am.mC, Am.mBin_ap, Am.mUn, Am.mCall_ap, Am.mCallB_ap, Am.mCons_ap, Am.mNil, Am.mList_ap, Am.mTup_ap, Am.mTst_ap, Am.mTru_ap, Am.truR_n, Am.truR_b, Am.truR_i, Am.truR_l, Am.truR_s, Am.truR_t, Am.truR_c, Am.truC_l, Am.mNot_ap, Am.notR_ok, Am.mAnd_ap, Am.mOr_ap, Am.mIfE_ap, Am.mNotV_ap, Am.notV_b, Am.mAndV_ap, Am.mOrV_ap, Am.mChain_ap, Am.ch1_ok, Am.ch2_ok, Am.chR_t, Am.chR_f, Am.mSl_ap, Am.mNoPart, Am.mPart_ap, Am.mMethL_ap, Am.mFrz, Am.mYes,
  Am.kName, Am.kTup, Am.kCons, Am.kNil, Am.kSub_ap, Am.subR_ok, Am.sub2_ok, Am.bind_ok, Am.bind_ex, Am.lift_ok, Am.lift_ex, Am.iListM, Am.iTupM, Am.iRng1M, Am.iRng2M, Am.gI0, Am.gI, Am.gNeg, Am.gInt, Am.gMin, Am.gMax,
  Am.gAdd_i, Am.gAdd_l, Am.gAdd_t, Am.gAdd_cl, Am.gAdd_lc, Am.gAdd_s, Am.gMul_i, Am.gMul_l, Am.viewL_l, Am.viewL_c, Am.viewS_l, Am.viewS_s, Am.viewS_c, Am.viewS_t, Am.viewS_kt, Am.viewS_str, Am.viewT_t, Am.viewT_kt, Am.gLen_l, Am.gLen_s, Am.gLen_t, Am.gLen_kt, Am.gLen_c, Am.lenC_l, Am.lenC_fl, Am.lenC_k, Am.lenC_t, Am.ixC_l, Am.ixC_fl, Am.gListOf_l, Am.gListOf_s, Am.gListOf_t, Am.gListOf_kt, Am.gListOf_c, Am.gTupOf_l, Am.gTupOf_t, Am.gTupOf_c, Am.gIx_l, Am.gIx_s, Am.gIx_t, Am.gIx_kt, Am.gIx_c, Am.gSl_l, Am.gSl_t, Am.gSl_c, Am.gRev_l, Am.gRev_c, Am.atI_0, Am.atI_1, Am.atI_2, Am.atI_3, Am.atI_4, Am.atI_5, Am.gIs_n, Am.gIs_l, Am.gIs_t, Am.gIs_i, Am.gIs_s, Am.gIs_kt, Am.gEq_if, Am.gEq_it, Am.gIs_c, Am.gIs_b, Am.frz_d, Am.gAppend, Am.gExtend, Am.gPopAt, Am.gSet, Am.gIxM,
  Am.need_pos, Am.ifc_pos, Am.needO_true, Am.truthA, Am.truthD, Am.mkL_c, Am.mkL_e, Am.mkT_e, Am.allD, Am.allD_map, Am.allD_append, Option.bind_some, List.getElem?_set_self, List.getElem?_set_ne, List.set_set, List.length_map, List.length_range, Int.toNat_natCast, Am.loc_get, Am.loc_get0, Am.loc_set, Am.loc_set0, Am.loc_push, Am.loc_len, Am.exit2_d, Am.exit2_d0, Am.exitR_0, Am.turn, Am.nxt_nx, Am.nxt_ct,
  List.length_cons, List.length_nil, List.map_cons, List.map_nil, List.cons_append, List.nil_append, List.replicate_succ, List.replicate_zero, List.getElem?_cons_zero, List.getElem?_cons_succ, List.getElem?_nil, List.set_cons_zero, List.set_cons_succ, List.append_nil, List.isEmpty_nil, List.isEmpty_cons, Nat.reduceAdd, Nat.reduceSub, Nat.add_zero, Nat.zero_add, if_pos, if_true, if_false, Bool.false_eq_true, Bool.not_true, Bool.true_and, Bool.and_true, Bool.false_and, Bool.and_false, Bool.not_false, Option.map_some, Option.map_none, decide_true, decide_false, ite_true, ite_false, *])
/-! ### codes: the bytes of things -/
namespace Cd
open PySem
/-- numbers that are written have ten bytes at most -/
abbrev N70 : Nat := 1180591620717411303424
def wN (n : Nat) : List Nat := if n < 128 then [n] else (n % 128 + 128) :: wN (n / 128)
termination_by n
decreasing_by omega
theorem wN_lo {n : Nat} (h : n < 128) : wN n = [n] := by rw [wN, if_pos h]
theorem wN_hi {n : Nat} (h : ¬ n < 128) : wN n = (n % 128 + 128) :: wN (n / 128) := by rw [wN, if_neg h]
theorem wN_len : ∀ (k n : Nat), n < 128 ^ (k + 1) → (wN n).length ≤ k + 1
  | 0, n, h => by rw [wN_lo (by simpa using h)]; simp
  | k + 1, n, h => by
    by_cases c : n < 128
    · rw [wN_lo c]; simp
    · rw [wN_hi c, List.length_cons]
      have := wN_len k (n / 128) (by
        rw [Nat.pow_succ] at h
        omega)
      omega
theorem wN_10 {n : Nat} (h : n < N70) : (wN n).length ≤ 10 := wN_len 9 n (Nat.lt_of_lt_of_le h (by decide))
theorem wN_pos (n : Nat) : 1 ≤ (wN n).length := by
  by_cases c : n < 128
  · rw [wN_lo c]; simp
  · rw [wN_hi c, List.length_cons]; omega
theorem wN_lt : ∀ (k n : Nat), n < k → ∀ b ∈ wN n, b < 256
  | 0, _, h, _, _ => by omega
  | k + 1, n, h, b, hb => by
    by_cases c : n < 128
    · rw [wN_lo c] at hb
      rw [List.mem_singleton.mp hb]; omega
    · rw [wN_hi c] at hb
      rcases List.mem_cons.mp hb with e | hb
      · omega
      · exact wN_lt k (n / 128) (by omega) b hb
theorem wN_256 {n b : Nat} (h : b ∈ wN n) : b < 256 := wN_lt (n + 1) n (Nat.lt_succ_self _) b h
def wL (items : List (List Nat)) : List Nat := wN items.length ++ items.flatten
abbrev Path := List Str
/-- the characters of names -/
abbrev alpha : List Nat := [97, 98, 99, 100, 101, 102, 103, 104, 105, 106, 107, 108, 109, 110, 111, 112, 113, 114, 115, 116, 117, 118, 119, 120, 121, 122, 48, 49, 50, 51, 52, 53, 54, 55, 56, 57, 95]
def codes (s : Str) : List Nat := s.cps.toList
def wName (s : Str) : List Nat := wL ((codes s).map wN)
def wPath (p : Path) : List Nat := wL (p.map wName)
abbrev Thing := Option (Nat × List Nat)
def wThing : Thing → List Nat
  | none => [0]
  | some (l, ss) => 1 :: (wN l ++ wL (ss.map wN))
abbrev Things := List (Path × Thing)
def lkT (ts : Things) (p : Path) : Thing := ((ts.find? fun q => decide (q.1 = p)).map (·.2)).getD none
inductive Rec where
  | folder (p : Path) | file (p : Path) | put (p : Path) (l : Nat) (ts : List (Nat × Nat)) | trim (p : Path) (l b : Nat) | move (p q : Path) | drop (p : Path) | snap (n : Str) | forget (n : Str) | back (n : Str)
def wPair (p : Nat × Nat) : List Nat := wN p.1 ++ wN p.2
def wRec : Rec → List Nat
  | .folder p => 0 :: wPath p
  | .file p => 1 :: wPath p
  | .put p l ts => 2 :: (wPath p ++ (wN l ++ wL (ts.map wPair)))
  | .trim p l b => 3 :: (wPath p ++ (wN l ++ wN b))
  | .move p q => 4 :: (wPath p ++ wPath q)
  | .drop p => 5 :: wPath p
  | .snap n => 6 :: wName n
  | .forget n => 7 :: wName n
  | .back n => 8 :: wName n
def wGroup (rs : List Rec) : List Nat := wL (rs.map wRec)
def wEnt (q : Path × Thing) : List Nat := wPath q.1 ++ wThing q.2
end Cd
namespace Lw
open PySem PySem.Spec PyProof.Rows L2 Am
section
variable {P : Program} {w : World} {K : PySem.W.Frag} {mg : Str → Option Value} {base : Heap}
theorem cbelow_d (n : Nat) (ds : List D) : CBelow n (.lst (ds.map A.d)) := fun a h => by
  obtain ⟨d, _, rfl⟩ := List.mem_map.mp h
  trivial
theorem nxt_of {Q : Slots → Store → Prop} {o : Out} {σ : Slots} {st : Store} (h : o = .nx σ st) (hp : Q σ st) : Nxt Q o := by rw [h]; exact hp
abbrev iN (n : Nat) : D := .int (n : Int)
abbrev iA (xs : List Nat) : List A := (xs.map iN).map A.d
/-- a list of bytes as data -/
abbrev bL (xs : List Nat) : D := .list (xs.map iN)
abbrev lD (ws : List (List Nat)) : List D := ws.map bL
theorem drop_get {α : Type} {xs : List α} {n : Nat} {z : α} (h : xs[n]? = some z) : xs.drop n = z :: xs.drop (n + 1) := by
  obtain ⟨hl, e⟩ := List.getElem?_eq_some_iff.mp h
  rw [List.drop_eq_getElem_cons hl, e]
theorem iA_get {xs : List Nat} {n : Nat} {y : A} (h : (iA xs)[n]? = some y) : ∃ z, xs[n]? = some z ∧ y = .d (.int (z : Nat)) := by
  rw [List.getElem?_map, List.getElem?_map] at h
  obtain ⟨z0, hz0, rfl⟩ := Option.map_eq_some_iff.mp h
  obtain ⟨z, hz, rfl⟩ := Option.map_eq_some_iff.mp hz0
  exact ⟨z, hz, rfl⟩
theorem iA_len (xs : List Nat) : (iA xs).length = xs.length := by rw [List.length_map, List.length_map]
theorem iA_app (xs ys : List Nat) : iA xs ++ iA ys = iA (xs ++ ys) := by rw [iA, iA, iA, List.map_append, List.map_append]
theorem dA_get {α : Type} {f : α → D} {xs : List α} {n : Nat} {y : A} (h : ((xs.map f).map A.d)[n]? = some y) : ∃ z, xs[n]? = some z ∧ y = .d (f z) := by
  rw [List.getElem?_map, List.getElem?_map] at h
  obtain ⟨z0, hz0, rfl⟩ := Option.map_eq_some_iff.mp h
  obtain ⟨z, hz, rfl⟩ := Option.map_eq_some_iff.mp hz0
  exact ⟨z, hz, rfl⟩
theorem dA_mem {α : Type} {f : α → D} {xs : List α} {y : A} (h : y ∈ (xs.map f).map A.d) : ∃ z ∈ xs, y = .d (f z) := by
  obtain ⟨y0, hy0, rfl⟩ := List.mem_map.mp h
  obtain ⟨z, hz, rfl⟩ := List.mem_map.mp hy0
  exact ⟨z, hz, rfl⟩
theorem set_same {st : Store} {q : Nat} {c : Cell} (h : st[q]? = some c) : st.set q c = st := by
  apply List.ext_getElem?
  intro i
  by_cases e : q = i
  · subst e
    rw [List.getElem?_set_self (RelS.lt h), h]
  · rw [List.getElem?_set_ne e]
end
end Lw
namespace Lw
open PySem PySem.Spec PyProof.Rows L2 Am
section
variable {P : Program} {w : World} {K : PySem.W.Frag} {mg : Str → Option Value} {base : Heap}
theorem ss_t (st : Store) (a : Str) (h : PyData.canLay0 (.str a) = true) : gEq false (.d (.str a)) (.d (.str a)) st = .ok (.d (.bl true)) st := gEq_same (n := 0) st (Pl.str 0 h) false rfl
theorem ss_f (st : Store) (a b : Str) (h : PyData.canLay0 (.str a) = true) (h2 : PyData.canLay0 (.str b) = true) (ne : a ≠ b) : gEq false (.d (.str a)) (.d (.str b)) st = .ok (.d (.bl false)) st := gEq_diff (n := 0) st (Pl.str 0 h) (Pl.str 0 h2) false fun z => ne (D.str.inj z)
def kIdx (ss : List Str) : List A → Store → Res A := fun ys st1 => match ys with
  | [.d (.str z)] => match ss.findIdx? (fun s => s == z) with
    | some j => .ok (.d (.int (j : Nat))) st1
    | none => .no
  | _ => .no
theorem mKIdx_ap (ss : List Str) (fs : MA) (σ : Slots) (st : Store) : mKIdx ss fs σ st = (fs σ st).bind (kIdx ss) := rfl
theorem gAdd_bL (xs ys : List Nat) (st : Store) (h : xs.length + ys.length ≤ SZ) : gAdd false (.d (bL xs)) (.d (bL ys)) st = .ok (.d (bL (xs ++ ys))) st := by
  have h2 : (((xs ++ ys).map iN).map A.d).length ≤ SZ := by rw [List.length_map, List.length_map, List.length_append]; exact h
  have e : xs.map iN ++ ys.map iN = (xs ++ ys).map iN := by rw [List.map_append]
  walk_at "ev*"
theorem wi_folder (st : Store) : kIdx ["folder", "file", "put", "trim", "move", "drop", "snap", "forget", "back"] [.d (.str "folder")] st = .ok (.d (.int (0 : Nat))) st := rfl
theorem wn_folder (st : Store) : gIn false (.d (.str "folder")) (.d (.tup [.str "snap", .str "forget", .str "back"])) st = .ok (.d (.bl false)) st := rfl
theorem wl_folder (st : Store) : gIn false (.d (.str "folder")) (.d (.list [.str "snap", .str "forget", .str "back"])) st = .ok (.d (.bl false)) st := rfl
theorem wx_folder (st : Store) : gIndex (.d (.list [.str "folder", .str "file", .str "put", .str "trim", .str "move", .str "drop", .str "snap", .str "forget", .str "back"])) [.d (.str "folder")] st = .ok (.d (.int (0 : Nat))) st := rfl
theorem wput_folder (st : Store) : gEq false (.d (.str "folder")) (.d (.str "put")) st = .ok (.d (.bl false)) st := ss_f st _ _ (by decide +kernel) (by decide +kernel) (by decide)
theorem wtrim_folder (st : Store) : gEq false (.d (.str "folder")) (.d (.str "trim")) st = .ok (.d (.bl false)) st := ss_f st _ _ (by decide +kernel) (by decide +kernel) (by decide)
theorem wmove_folder (st : Store) : gEq false (.d (.str "folder")) (.d (.str "move")) st = .ok (.d (.bl false)) st := ss_f st _ _ (by decide +kernel) (by decide +kernel) (by decide)
theorem wi_file (st : Store) : kIdx ["folder", "file", "put", "trim", "move", "drop", "snap", "forget", "back"] [.d (.str "file")] st = .ok (.d (.int (1 : Nat))) st := rfl
theorem wn_file (st : Store) : gIn false (.d (.str "file")) (.d (.tup [.str "snap", .str "forget", .str "back"])) st = .ok (.d (.bl false)) st := rfl
theorem wl_file (st : Store) : gIn false (.d (.str "file")) (.d (.list [.str "snap", .str "forget", .str "back"])) st = .ok (.d (.bl false)) st := rfl
theorem wx_file (st : Store) : gIndex (.d (.list [.str "folder", .str "file", .str "put", .str "trim", .str "move", .str "drop", .str "snap", .str "forget", .str "back"])) [.d (.str "file")] st = .ok (.d (.int (1 : Nat))) st := rfl
theorem wput_file (st : Store) : gEq false (.d (.str "file")) (.d (.str "put")) st = .ok (.d (.bl false)) st := ss_f st _ _ (by decide +kernel) (by decide +kernel) (by decide)
theorem wtrim_file (st : Store) : gEq false (.d (.str "file")) (.d (.str "trim")) st = .ok (.d (.bl false)) st := ss_f st _ _ (by decide +kernel) (by decide +kernel) (by decide)
theorem wmove_file (st : Store) : gEq false (.d (.str "file")) (.d (.str "move")) st = .ok (.d (.bl false)) st := ss_f st _ _ (by decide +kernel) (by decide +kernel) (by decide)
theorem wi_put (st : Store) : kIdx ["folder", "file", "put", "trim", "move", "drop", "snap", "forget", "back"] [.d (.str "put")] st = .ok (.d (.int (2 : Nat))) st := rfl
theorem wn_put (st : Store) : gIn false (.d (.str "put")) (.d (.tup [.str "snap", .str "forget", .str "back"])) st = .ok (.d (.bl false)) st := rfl
theorem wl_put (st : Store) : gIn false (.d (.str "put")) (.d (.list [.str "snap", .str "forget", .str "back"])) st = .ok (.d (.bl false)) st := rfl
theorem wx_put (st : Store) : gIndex (.d (.list [.str "folder", .str "file", .str "put", .str "trim", .str "move", .str "drop", .str "snap", .str "forget", .str "back"])) [.d (.str "put")] st = .ok (.d (.int (2 : Nat))) st := rfl
theorem wput_put (st : Store) : gEq false (.d (.str "put")) (.d (.str "put")) st = .ok (.d (.bl true)) st := ss_t st _ (by decide +kernel)
theorem wtrim_put (st : Store) : gEq false (.d (.str "put")) (.d (.str "trim")) st = .ok (.d (.bl false)) st := ss_f st _ _ (by decide +kernel) (by decide +kernel) (by decide)
theorem wmove_put (st : Store) : gEq false (.d (.str "put")) (.d (.str "move")) st = .ok (.d (.bl false)) st := ss_f st _ _ (by decide +kernel) (by decide +kernel) (by decide)
theorem wi_trim (st : Store) : kIdx ["folder", "file", "put", "trim", "move", "drop", "snap", "forget", "back"] [.d (.str "trim")] st = .ok (.d (.int (3 : Nat))) st := rfl
theorem wn_trim (st : Store) : gIn false (.d (.str "trim")) (.d (.tup [.str "snap", .str "forget", .str "back"])) st = .ok (.d (.bl false)) st := rfl
theorem wl_trim (st : Store) : gIn false (.d (.str "trim")) (.d (.list [.str "snap", .str "forget", .str "back"])) st = .ok (.d (.bl false)) st := rfl
theorem wx_trim (st : Store) : gIndex (.d (.list [.str "folder", .str "file", .str "put", .str "trim", .str "move", .str "drop", .str "snap", .str "forget", .str "back"])) [.d (.str "trim")] st = .ok (.d (.int (3 : Nat))) st := rfl
theorem wput_trim (st : Store) : gEq false (.d (.str "trim")) (.d (.str "put")) st = .ok (.d (.bl false)) st := ss_f st _ _ (by decide +kernel) (by decide +kernel) (by decide)
theorem wtrim_trim (st : Store) : gEq false (.d (.str "trim")) (.d (.str "trim")) st = .ok (.d (.bl true)) st := ss_t st _ (by decide +kernel)
theorem wmove_trim (st : Store) : gEq false (.d (.str "trim")) (.d (.str "move")) st = .ok (.d (.bl false)) st := ss_f st _ _ (by decide +kernel) (by decide +kernel) (by decide)
theorem wi_move (st : Store) : kIdx ["folder", "file", "put", "trim", "move", "drop", "snap", "forget", "back"] [.d (.str "move")] st = .ok (.d (.int (4 : Nat))) st := rfl
theorem wn_move (st : Store) : gIn false (.d (.str "move")) (.d (.tup [.str "snap", .str "forget", .str "back"])) st = .ok (.d (.bl false)) st := rfl
theorem wl_move (st : Store) : gIn false (.d (.str "move")) (.d (.list [.str "snap", .str "forget", .str "back"])) st = .ok (.d (.bl false)) st := rfl
theorem wx_move (st : Store) : gIndex (.d (.list [.str "folder", .str "file", .str "put", .str "trim", .str "move", .str "drop", .str "snap", .str "forget", .str "back"])) [.d (.str "move")] st = .ok (.d (.int (4 : Nat))) st := rfl
theorem wput_move (st : Store) : gEq false (.d (.str "move")) (.d (.str "put")) st = .ok (.d (.bl false)) st := ss_f st _ _ (by decide +kernel) (by decide +kernel) (by decide)
theorem wtrim_move (st : Store) : gEq false (.d (.str "move")) (.d (.str "trim")) st = .ok (.d (.bl false)) st := ss_f st _ _ (by decide +kernel) (by decide +kernel) (by decide)
theorem wmove_move (st : Store) : gEq false (.d (.str "move")) (.d (.str "move")) st = .ok (.d (.bl true)) st := ss_t st _ (by decide +kernel)
theorem wi_drop (st : Store) : kIdx ["folder", "file", "put", "trim", "move", "drop", "snap", "forget", "back"] [.d (.str "drop")] st = .ok (.d (.int (5 : Nat))) st := rfl
theorem wn_drop (st : Store) : gIn false (.d (.str "drop")) (.d (.tup [.str "snap", .str "forget", .str "back"])) st = .ok (.d (.bl false)) st := rfl
theorem wl_drop (st : Store) : gIn false (.d (.str "drop")) (.d (.list [.str "snap", .str "forget", .str "back"])) st = .ok (.d (.bl false)) st := rfl
theorem wx_drop (st : Store) : gIndex (.d (.list [.str "folder", .str "file", .str "put", .str "trim", .str "move", .str "drop", .str "snap", .str "forget", .str "back"])) [.d (.str "drop")] st = .ok (.d (.int (5 : Nat))) st := rfl
theorem wput_drop (st : Store) : gEq false (.d (.str "drop")) (.d (.str "put")) st = .ok (.d (.bl false)) st := ss_f st _ _ (by decide +kernel) (by decide +kernel) (by decide)
theorem wtrim_drop (st : Store) : gEq false (.d (.str "drop")) (.d (.str "trim")) st = .ok (.d (.bl false)) st := ss_f st _ _ (by decide +kernel) (by decide +kernel) (by decide)
theorem wmove_drop (st : Store) : gEq false (.d (.str "drop")) (.d (.str "move")) st = .ok (.d (.bl false)) st := ss_f st _ _ (by decide +kernel) (by decide +kernel) (by decide)
theorem wi_snap (st : Store) : kIdx ["folder", "file", "put", "trim", "move", "drop", "snap", "forget", "back"] [.d (.str "snap")] st = .ok (.d (.int (6 : Nat))) st := rfl
theorem wn_snap (st : Store) : gIn false (.d (.str "snap")) (.d (.tup [.str "snap", .str "forget", .str "back"])) st = .ok (.d (.bl true)) st := rfl
theorem wl_snap (st : Store) : gIn false (.d (.str "snap")) (.d (.list [.str "snap", .str "forget", .str "back"])) st = .ok (.d (.bl true)) st := rfl
theorem wx_snap (st : Store) : gIndex (.d (.list [.str "folder", .str "file", .str "put", .str "trim", .str "move", .str "drop", .str "snap", .str "forget", .str "back"])) [.d (.str "snap")] st = .ok (.d (.int (6 : Nat))) st := rfl
theorem wput_snap (st : Store) : gEq false (.d (.str "snap")) (.d (.str "put")) st = .ok (.d (.bl false)) st := ss_f st _ _ (by decide +kernel) (by decide +kernel) (by decide)
theorem wtrim_snap (st : Store) : gEq false (.d (.str "snap")) (.d (.str "trim")) st = .ok (.d (.bl false)) st := ss_f st _ _ (by decide +kernel) (by decide +kernel) (by decide)
theorem wmove_snap (st : Store) : gEq false (.d (.str "snap")) (.d (.str "move")) st = .ok (.d (.bl false)) st := ss_f st _ _ (by decide +kernel) (by decide +kernel) (by decide)
theorem wi_forget (st : Store) : kIdx ["folder", "file", "put", "trim", "move", "drop", "snap", "forget", "back"] [.d (.str "forget")] st = .ok (.d (.int (7 : Nat))) st := rfl
theorem wn_forget (st : Store) : gIn false (.d (.str "forget")) (.d (.tup [.str "snap", .str "forget", .str "back"])) st = .ok (.d (.bl true)) st := rfl
theorem wl_forget (st : Store) : gIn false (.d (.str "forget")) (.d (.list [.str "snap", .str "forget", .str "back"])) st = .ok (.d (.bl true)) st := rfl
theorem wx_forget (st : Store) : gIndex (.d (.list [.str "folder", .str "file", .str "put", .str "trim", .str "move", .str "drop", .str "snap", .str "forget", .str "back"])) [.d (.str "forget")] st = .ok (.d (.int (7 : Nat))) st := rfl
theorem wput_forget (st : Store) : gEq false (.d (.str "forget")) (.d (.str "put")) st = .ok (.d (.bl false)) st := ss_f st _ _ (by decide +kernel) (by decide +kernel) (by decide)
theorem wtrim_forget (st : Store) : gEq false (.d (.str "forget")) (.d (.str "trim")) st = .ok (.d (.bl false)) st := ss_f st _ _ (by decide +kernel) (by decide +kernel) (by decide)
theorem wmove_forget (st : Store) : gEq false (.d (.str "forget")) (.d (.str "move")) st = .ok (.d (.bl false)) st := ss_f st _ _ (by decide +kernel) (by decide +kernel) (by decide)
theorem wi_back (st : Store) : kIdx ["folder", "file", "put", "trim", "move", "drop", "snap", "forget", "back"] [.d (.str "back")] st = .ok (.d (.int (8 : Nat))) st := rfl
theorem wn_back (st : Store) : gIn false (.d (.str "back")) (.d (.tup [.str "snap", .str "forget", .str "back"])) st = .ok (.d (.bl true)) st := rfl
theorem wl_back (st : Store) : gIn false (.d (.str "back")) (.d (.list [.str "snap", .str "forget", .str "back"])) st = .ok (.d (.bl true)) st := rfl
theorem wx_back (st : Store) : gIndex (.d (.list [.str "folder", .str "file", .str "put", .str "trim", .str "move", .str "drop", .str "snap", .str "forget", .str "back"])) [.d (.str "back")] st = .ok (.d (.int (8 : Nat))) st := rfl
theorem wput_back (st : Store) : gEq false (.d (.str "back")) (.d (.str "put")) st = .ok (.d (.bl false)) st := ss_f st _ _ (by decide +kernel) (by decide +kernel) (by decide)
theorem wtrim_back (st : Store) : gEq false (.d (.str "back")) (.d (.str "trim")) st = .ok (.d (.bl false)) st := ss_f st _ _ (by decide +kernel) (by decide +kernel) (by decide)
theorem wmove_back (st : Store) : gEq false (.d (.str "back")) (.d (.str "move")) st = .ok (.d (.bl false)) st := ss_f st _ _ (by decide +kernel) (by decide +kernel) (by decide)
end
end Lw
namespace Lw
open PySem PySem.Spec PyProof.Rows L2 Am
section
variable {P : Program} {w : World} {K : PySem.W.Frag} {mg : Str → Option Value} {base : Heap}
theorem x_write_number {n : Nat} (hn : n < Cd.N70) (st : Store) : m_write_number [.d (.int n)] st = .ok (.c st.length) (st ++ [.lst (iA (Cd.wN n))]) := by
  have key : ∀ (k n : Nat) (P : List Nat), n < k → P.length + (Cd.wN n).length ≤ 1000 → ∃ (m : Nat) (P' : List Nat), P' ++ [m] = P ++ Cd.wN n ∧ mWhile (mTst (mBin gGe (mVar 0) (mC (.int 128))))
      (mSeq (mDo (mMethL gAppend (mVar 1) (mCons (mBin (gAdd false) (mBin gMod (mVar 0) (mC (.int 128))) (mC (.int 128))) mNil)))
      (mSet 0 (mBin gFdiv (mVar 0) (mC (.int 128))))) [some (.d (.int n)), some (.c st.length)] (st ++ [.lst (iA P)]) = .nx [some (.d (.int m)), some (.c st.length)] (st ++ [.lst (iA P')]) := by
    intro k
    induction k with
    | zero => intro n P h; omega
    | succ k ih =>
      intro n P h hl
      by_cases c : n < 128
      · refine ⟨n, P, by rw [Cd.wN_lo c], ?_⟩
        have h1 : decide ((n : Int) ≥ 128) = false := decide_eq_false (by omega)
        rw [mWhile_eq]
        clear ih
        walk_at "ev*"
      · have h1 : decide ((n : Int) ≥ 128) = true := decide_eq_true (by omega)
        rw [Cd.wN_hi c, List.length_cons] at hl
        obtain ⟨m, P', e, hw⟩ := ih (n / 128) (P ++ [n % 128 + 128]) (by omega) (by rw [List.length_append, List.length_singleton]; omega)
        refine ⟨m, P', by rw [e, Cd.wN_hi c, List.append_assoc]; rfl, ?_⟩
        have h2 : (n : Int) % 128 + 128 = ((n % 128 + 128 : Nat) : Int) := by omega
        have h3 : (n : Int) / 128 = ((n / 128 : Nat) : Int) := by omega
        have h4 : iA P ++ [A.d (.int ((n % 128 + 128 : Nat) : Int))] = iA (P ++ [n % 128 + 128]) := by rw [← iA_app]; rfl
        have h5 : (iA P).length < SZ := by rw [iA_len]; unfold SZ; omega
        rw [mWhile_eq]
        clear ih e
        walk_at "ev*"
  have hl := Cd.wN_10 hn
  obtain ⟨m, P', e, hw⟩ := key (n + 1) n [] (Nat.lt_succ_self _) (by rw [List.length_nil]; omega)
  have hw : mWhile _ _ _ (st ++ [.lst []]) = _ := hw
  have e : P' ++ [m] = Cd.wN n := e
  have h5 : iA P' ++ [A.d (.int (m : Int))] = iA (Cd.wN n) := by rw [← e, ← iA_app]; rfl
  have h6 : (iA (Cd.wN n)).length ≤ SZ := by rw [iA_len]; unfold SZ; omega
  have h7 : mkL true (iA (Cd.wN n)) (st ++ [.lst (iA P')]) = .ok (.c (st.length + 1)) (st ++ [.lst (iA P'), .lst (iA (Cd.wN n))]) := by
    unfold mkL
    rw [ifc_pos h6]
    show Res.ok (A.c (st ++ [Cell.lst (iA P')]).length) _ = _
    rw [List.length_append, loc_push]
    rfl
  unfold m_write_number b_write_number
  clear key
  walk_at "ev"
  rw [hw]
  clear hw
  walk_at "ev*"
  exact exit3_l (k := 1) st rfl (cbelow_d _ _)
/-- .. as data -/
theorem x_wnF {n : Nat} (hn : n < Cd.N70) (st : Store) : (m_write_number [.d (.int n)] st).bind frz = .ok (.d (bL (Cd.wN n))) (st ++ [.fz (bL (Cd.wN n))]) := by
  rw [x_write_number hn]
  rw [bind_ok]
  rw [frz_c _ (loc_get0 _ _) (allD_map _), loc_set0]
  rfl
end
end Lw
namespace Lw
open PySem PySem.Spec PyProof.Rows L2 Am
section
variable {P : Program} {w : World} {K : PySem.W.Frag} {mg : Str → Option Value} {base : Heap}
theorem flat_len {ws : List (List Nat)} {i : Nat} {w : List Nat} (h : ws[i]? = some w) : (ws.take i).flatten.length + w.length ≤ ws.flatten.length := by
  have e : ws.flatten = (ws.take i).flatten ++ (w ++ (ws.drop (i + 1)).flatten) := by
    conv => lhs; rw [← List.take_append_drop i ws, drop_get h, List.flatten_append, List.flatten_cons]
  rw [e, List.length_append, List.length_append]
  omega
theorem x_write_list {ws : List (List Nat)} (hk : ws.length < Cd.N70) (hl : (Cd.wL ws).length ≤ SZ) (st : Store) : m_write_list [.d (.list (lD ws))] st = .ok (.d (bL (Cd.wL ws))) st := by
  have h1 := x_write_number hk st
  have hll : (lD ws).length = ws.length := List.length_map ..
  unfold Cd.wL at hl ⊢
  rw [List.length_append] at hl
  unfold m_write_list b_write_list
  walk_at "ev*"
  generalize ho : forA _ _ _ _ _ _ = o
  obtain ⟨σ1, st1, rfl, y, rfl, rfl⟩ := forL_nx ho (fun i σ s => ∃ y : Option A, σ = [some (.d (.list (lD ws))), some (.c st.length), y] ∧ s = st ++ [.lst (iA (Cd.wN ws.length ++ (ws.take i).flatten))])
    ⟨_, rfl, by rw [List.take_zero, List.flatten_nil, List.append_nil]⟩ (fun _ _ _ _ _ => by first | trivial | rfl) (fun i y σ s hy ⟨y0, e, e2⟩ => by
      subst e e2
      obtain ⟨w, hw, rfl⟩ := dA_get hy
      have hf := flat_len hw
      have h2 : (iA (Cd.wN ws.length ++ (ws.take i).flatten)).length + w.length ≤ SZ := by
        rw [iA_len, List.length_append]; omega
      have h3 : iA (Cd.wN ws.length ++ (ws.take i).flatten) ++ iA w = iA (Cd.wN ws.length ++ (ws.take (i + 1)).flatten) := by
        rw [iA_app, List.append_assoc, List.take_add_one, hw, List.flatten_append]
        show iA (_ ++ (_ ++ w)) = iA (_ ++ (_ ++ (w ++ [])))
        rw [List.append_nil]
      refine nxt_of (σ := [some (.d (.list (lD ws))), some (.c st.length), some (.d (bL w))]) (st := st ++ [.lst (iA (Cd.wN ws.length ++ (ws.take (i + 1)).flatten))]) ?_ ⟨_, rfl, rfl⟩
      clear ho hy h1 hll hl hf
      generalize iA (Cd.wN ws.length ++ (ws.take i).flatten) = Z at *
      generalize iA (Cd.wN ws.length ++ (ws.take (i + 1)).flatten) = Z' at *
      walk_at "ev*")
  rw [List.length_map, List.length_map, List.take_of_length_le (Nat.le_refl _)] at ho ⊢
  clear ho h1
  walk_at "ev"
  exact exit2_l0 st rfl (allD_map _)
theorem x_write_numbers {a : A} {xs : List Nat} (ha : Seqs a (xs.map iN)) (hx : ∀ x ∈ xs, x < Cd.N70) (hl : (Cd.wL (xs.map Cd.wN)).length ≤ SZ) (hk : xs.length ≤ SZ) (st : Store) : m_write_numbers [a] st = .ok (.d (bL (Cd.wL (xs.map Cd.wN)))) st := by
  have h1 := x_write_list (ws := xs.map Cd.wN) (by rw [List.length_map]; exact Nat.lt_of_le_of_lt hk (by decide)) hl st
  obtain ⟨ok, h2, h3⟩ := ha st
  unfold m_write_numbers b_write_numbers
  walk_at "ev"
  rw [mLc_datJ (f := iN) (fun x => bL (Cd.wN x)) (xs := xs) (st1 := st) (ok := ok) (by
    rw [iAny_ap]
    exact h2) (fun L => h3 _) hk (fun x hx' L => ⟨[a |> some, some (.d (iN x))], _, rfl, by
      have := x_wnF (hx x hx') (st ++ L)
      show (m_write_number [.d (iN x)] (st ++ L)).bind frz = _
      exact this⟩)]
  have e : xs.map (fun x => bL (Cd.wN x)) = lD (xs.map Cd.wN) := by unfold lD; rw [List.map_map]; rfl
  rw [e]
  walk_at "ev*"
end
end Lw
namespace Lw
open PySem PySem.Spec PyProof.Rows L2 Am
section
variable {P : Program} {w : World} {K : PySem.W.Frag} {mg : Str → Option Value} {base : Heap}
theorem ord1 (c : Nat) (st : Store) : gOrd [.d (.str ⟨#[c]⟩)] st = .ok (.d (.int (c : Nat))) st := rfl
theorem codes_len (s : Str) : (Cd.codes s).length = s.length := by unfold Cd.codes; rw [Array.length_toList]; rfl
/-- a text's signs are below a bound -/
def TxO (s : Str) : Prop := s.length ≤ 1000 ∧ ∀ c ∈ Cd.codes s, c < Cd.N70
theorem len_map {α : Type} {f : α → List Nat} {B : Nat} {xs : List α} (h : ∀ x ∈ xs, (f x).length ≤ B) : (xs.map f).flatten.length ≤ xs.length * B := by
  induction xs with
  | nil => simp
  | cons x xs ih =>
    rw [List.map_cons, List.flatten_cons, List.length_append, List.length_cons, Nat.succ_mul]
    have := h x List.mem_cons_self
    have := ih fun y hy => h y (List.mem_cons_of_mem _ hy)
    omega
theorem wL_len {α : Type} {f : α → List Nat} {B : Nat} {xs : List α} (h : ∀ x ∈ xs, (f x).length ≤ B) (hk : xs.length < Cd.N70) : (Cd.wL (xs.map f)).length ≤ 10 + xs.length * B := by
  unfold Cd.wL
  rw [List.length_append, List.length_map]
  have := Cd.wN_10 hk
  have := len_map h
  omega
theorem wName_len {s : Str} (h : TxO s) : (Cd.wName s).length ≤ 10 + s.length * 10 := by
  have := wL_len (f := Cd.wN) (B := 10) (xs := Cd.codes s) (fun c hc => Cd.wN_10 (h.2 c hc)) (by rw [codes_len]; exact Nat.lt_of_le_of_lt h.1 (by decide))
  rw [codes_len] at this
  exact this
theorem x_write_name {s : Str} (h : TxO s) (st : Store) : m_write_name [.d (.str s)] st = .ok (.d (bL (Cd.wName s))) st := by
  have hl := wName_len h
  have h0 := h.1
  have h1 := x_write_numbers (a := .d (.list ((Cd.codes s).map iN))) (xs := Cd.codes s) (seqs_l _) h.2 (show (Cd.wName s).length ≤ SZ by unfold SZ; omega) (by rw [codes_len]; unfold SZ; omega) st
  unfold m_write_name b_write_name
  walk_at "ev"
  have ec : (chS s).map D.str = (Cd.codes s).map fun c => D.str ⟨#[c]⟩ := by
    unfold chS Cd.codes
    rw [List.map_map]
    rfl
  rw [mLc_datJ (f := fun c => D.str ⟨#[c]⟩) (fun c => iN c) (xs := Cd.codes s) (st1 := st) (ok := fun _ => True) (by
    rw [← ec]
    rfl) (fun L => trivial) (by rw [codes_len]; unfold SZ; omega) (fun c hc L => ⟨_, [], rfl, by
      rw [List.append_nil]
      rfl⟩)]
  walk_at "ev*"
  rfl
/-- names -/
def NmO (s : Str) : Prop := TxO s ∧ s.length ≤ 100 ∧ ∀ c ∈ Cd.codes s, c ∈ Cd.alpha
/-- paths that may be written -/
def PaO (p : Cd.Path) : Prop := p.length ≤ 6 ∧ ∀ s ∈ p, NmO s
theorem wPath_len {p : Cd.Path} (h : PaO p) : (Cd.wPath p).length ≤ 10 + p.length * 1010 := wL_len (fun s hs => by have := wName_len (h.2 s hs).1; have := (h.2 s hs).2.1; omega) (Nat.lt_of_le_of_lt h.1 (by decide))
theorem x_write_path {p : Cd.Path} (h : PaO p) (st : Store) : m_write_path [.d (pD p)] st = .ok (.d (bL (Cd.wPath p))) st := by
  have hl := wPath_len h
  have h0 := h.1
  have h1 := x_write_list (ws := p.map Cd.wName) (by rw [List.length_map]; exact Nat.lt_of_le_of_lt h.1 (by decide)) (show (Cd.wPath p).length ≤ SZ by unfold SZ; omega) st
  unfold m_write_path b_write_path
  walk_at "ev"
  rw [mLc_datJ (f := D.str) (fun s => bL (Cd.wName s)) (xs := p) (st1 := st) (ok := fun _ => True) (by
    rw [iAny_ap]
    rfl) (fun L => trivial) (by unfold SZ; omega) (fun s hs L => ⟨_, [], rfl, by
      rw [List.append_nil]
      exact x_write_name (h.2 s hs).1 _⟩)]
  have e : p.map (fun s => bL (Cd.wName s)) = lD (p.map Cd.wName) := by unfold lD; rw [List.map_map]; rfl
  rw [e]
  walk_at "ev*"
  rfl
def tD : Cd.Thing → D
  | none => .non
  | some (l, ss) => .tup [iN l, .tup (ss.map iN)]
def ThO : Cd.Thing → Prop
  | none => True
  | some (l, ss) => l < Cd.N70 ∧ ss.length ≤ 1000 ∧ ∀ s ∈ ss, s < Cd.N70
theorem wThing_len {t : Cd.Thing} (h : ThO t) : (Cd.wThing t).length ≤ 20000 := by
  cases t with
  | none => unfold Cd.wThing; simp
  | some p =>
    obtain ⟨l, ss⟩ := p
    obtain ⟨h1, h2, h3⟩ := h
    have e1 := Cd.wN_10 h1
    have e2 := wL_len (f := Cd.wN) (B := 10) (xs := ss) (fun c hc => Cd.wN_10 (h3 c hc)) (Nat.lt_of_le_of_lt h2 (by decide))
    show (1 :: (Cd.wN l ++ Cd.wL (ss.map Cd.wN))).length ≤ _
    rw [List.length_cons, List.length_append]
    omega
theorem x_write_thing {t : Cd.Thing} (h : ThO t) (st : Store) : ∃ J, m_write_thing [.d (tD t)] st = .ok (.d (bL (Cd.wThing t))) (st ++ J) := by
  have hl := wThing_len h
  cases t with
  | none =>
    refine ⟨[], ?_⟩
    unfold m_write_thing b_write_thing tD
    walk_at "ev*"
    rfl
  | some p =>
    obtain ⟨l, ss⟩ := p
    obtain ⟨h1, h2, h3⟩ := h
    have hl : (1 :: (Cd.wN l ++ Cd.wL (ss.map Cd.wN))).length ≤ 20000 := hl
    rw [List.length_cons, List.length_append] at hl
    have e1 := x_write_number h1 st
    have e2 : frz (.c st.length) (st ++ [.lst (iA (Cd.wN l))]) = .ok (.d (bL (Cd.wN l))) (st ++ [.fz (bL (Cd.wN l))]) := by
      rw [frz_c _ (loc_get0 _ _) (allD_map _), loc_set0]
      rfl
    have e3 := x_write_numbers (a := .d (.tup (ss.map iN))) (xs := ss) (seqs_t _) h3 (by unfold SZ; omega) (by unfold SZ; omega) (st ++ [.fz (bL (Cd.wN l))])
    refine ⟨[.fz (bL (Cd.wN l))], ?_⟩
    have e4 : [D.int 1] ++ (Cd.wN l).map iN = (1 :: Cd.wN l).map iN := rfl
    have e5 : (1 :: Cd.wN l).map iN ++ (Cd.wL (ss.map Cd.wN)).map iN = (Cd.wThing (some (l, ss))).map iN := by rw [← List.map_append]; rfl
    have s1 : (((1 :: Cd.wN l).map iN).map A.d).length ≤ SZ := by rw [List.length_map, List.length_map, List.length_cons]; unfold SZ; omega
    have s2 : (((Cd.wThing (some (l, ss))).map iN).map A.d).length ≤ SZ := by
      show (((1 :: (Cd.wN l ++ Cd.wL (ss.map Cd.wN))).map iN).map A.d).length ≤ SZ
      rw [List.length_map, List.length_map, List.length_cons, List.length_append]; unfold SZ; omega
    have g1 := gIs_t (st := st) false [iN l, .tup (ss.map iN)]
    unfold m_write_thing b_write_thing tD
    generalize Cd.wThing (some (l, ss)) = Z at *
    walk_at "ev*"
    exact congrArg (fun z => Res.ok (A.d (.list z)) (st ++ [Cell.fz (bL (Cd.wN l))])) e5
end
end Lw
namespace Lw
open PySem PySem.Spec PyProof.Rows L2 Am
section
variable {P : Program} {w : World} {K : PySem.W.Frag} {mg : Str → Option Value} {base : Heap}
theorem gIx_DT {st : Store} {g y a : A} {kvs : List (List Key × A)} {k : List Key} (h1 : viewS st g = none) (h2 : viewT g = none) (h3 : viewK st g = none) (h : viewDT st g = some kvs) (hk : keysT y = some k) (hl : lookK kvs k = some a) : gIx g y st = .ok a st := by
  unfold gIx
  split
  · cases h
  · simp only [h1, h2, h3, h, hk, hl]
section
variable {κ κ' α β : Type} [DecidableEq κ] [DecidableEq κ']
theorem lookK_map (e : κ → κ') (he : ∀ a b, e a = e b → a = b) (f : α → β) (k : κ) : ∀ kvs : List (κ × α), lookK (kvs.map fun p => (e p.1, f p.2)) (e k) = (lookK kvs k).map f
  | [] => rfl
  | (k1, v) :: r => by
    have ih := lookK_map e he f k r
    unfold lookK at ih ⊢
    rw [List.map_cons]
    by_cases h : k1 = k
    · rw [List.find?_cons_of_pos (by simpa using congrArg e h), List.find?_cons_of_pos (by simpa using h)]
      rfl
    · rw [List.find?_cons_of_neg (by simpa using fun z => h (he _ _ z)), List.find?_cons_of_neg (by simpa using h)]
      exact ih
theorem putA_map (e : κ → κ') (he : ∀ a b, e a = e b → a = b) (f : α → β) (k : κ) (v : α) (kvs : List (κ × α)) : putA (kvs.map fun p => (e p.1, f p.2)) (e k) (f v) = (putA kvs k v).map fun p => (e p.1, f p.2) := by
  have ha : (kvs.map fun p => (e p.1, f p.2)).any (fun kv => decide (kv.1 = e k)) = kvs.any fun kv => decide (kv.1 = k) := by
    rw [List.any_map]
    congr 1
    funext p
    show decide (e p.1 = e k) = decide (p.1 = k)
    by_cases h : p.1 = k
    · rw [decide_eq_true h, decide_eq_true (congrArg e h)]
    · rw [decide_eq_false h, decide_eq_false fun z => h (he _ _ z)]
  unfold putA
  rw [ha]
  by_cases h : (kvs.any fun kv => decide (kv.1 = k)) = true
  · rw [if_pos h, if_pos h, List.map_map, List.map_map]
    apply List.map_congr_left
    intro p _
    show (if e p.1 = e k then (e p.1, f v) else (e p.1, f p.2)) = _
    by_cases q : p.1 = k
    · rw [if_pos (congrArg e q)]
      show _ = (fun p : κ × α => (e p.1, f p.2)) (if p.1 = k then (p.1, v) else p)
      rw [if_pos q]
    · rw [if_neg fun z => q (he _ _ z)]
      show _ = (fun p : κ × α => (e p.1, f p.2)) (if p.1 = k then (p.1, v) else p)
      rw [if_neg q]
  · rw [if_neg h, if_neg h, List.map_append]
    rfl
theorem putA_fresh {kvs : List (κ × α)} {k : κ} {v : α} (h : k ∉ kvs.map (·.1)) : putA kvs k v = kvs ++ [(k, v)] := by
  unfold putA
  rw [if_neg]
  intro z
  obtain ⟨p, hp, e⟩ := List.any_eq_true.mp z
  exact h (List.mem_map.mpr ⟨p, hp, of_decide_eq_true e⟩)
theorem putA_mem {kvs : List (κ × α)} {k : κ} {v : α} {q : κ × α} (h : q ∈ putA kvs k v) : q ∈ kvs ∨ q = (k, v) := by
  unfold putA at h
  split at h
  · obtain ⟨p, hp, rfl⟩ := List.mem_map.mp h
    split
    · rename_i e
      exact .inr (by rw [e])
    · exact .inl hp
  · rcases List.mem_append.mp h with h | h
    · exact .inl h
    · exact .inr (List.mem_singleton.mp h)
theorem putA_len {kvs : List (κ × α)} {k : κ} {v : α} : (putA kvs k v).length ≤ kvs.length + 1 := by
  unfold putA
  split
  · rw [List.length_map]; omega
  · rw [List.length_append]; exact Nat.le_refl _
theorem putA_nodup {kvs : List (κ × α)} {k : κ} {v : α} (h : (kvs.map (·.1)).Nodup) : ((putA kvs k v).map (·.1)).Nodup := by
  unfold putA
  split
  · rw [List.map_map]
    rw [show ((fun x : κ × α => x.1) ∘ fun kv => if kv.1 = k then (kv.1, v) else kv) = fun x => x.1 from funext fun p => by
      show (if p.1 = k then (p.1, v) else p).1 = p.1
      split <;> rfl]
    exact h
  · rename_i hn
    rw [List.map_append]
    refine List.nodup_append.mpr ⟨h, by simp, ?_⟩
    intro a ha b hb e
    have hb : b = k := by simpa using hb
    rw [e, hb] at ha
    obtain ⟨p, hp, e1⟩ := List.mem_map.mp ha
    exact hn (List.any_eq_true.mpr ⟨p, hp, decide_eq_true e1⟩)
theorem lookK_some {kvs : List (κ × α)} {k : κ} (h : k ∈ kvs.map (·.1)) : ∃ v, lookK kvs k = some v ∧ (k, v) ∈ kvs := by
  unfold lookK
  cases hf : kvs.find? (fun kv => decide (kv.1 = k)) with
  | none =>
    obtain ⟨p, hp, e⟩ := List.mem_map.mp h
    exact absurd (decide_eq_true e) (List.find?_eq_none.mp hf p hp)
  | some p =>
    refine ⟨p.2, rfl, ?_⟩
    have e : p.1 = k := by simpa using List.find?_some hf
    have := List.mem_of_find?_eq_some hf
    rw [← e]
    exact this
theorem lookK_fun (f : κ → α) {k : κ} : ∀ {ks : List κ}, k ∈ ks → lookK (ks.map fun k => (k, f k)) k = some (f k)
  | k1 :: r, h => by
    unfold lookK
    rw [List.map_cons]
    by_cases e : k1 = k
    · rw [List.find?_cons_of_pos (by simpa using e), e]; rfl
    · rw [List.find?_cons_of_neg (by simpa using e)]
      exact lookK_fun f (by
        rcases List.mem_cons.mp h with h | h
        · exact absurd h.symm e
        · exact h)
end
abbrev kP (p : Cd.Path) : List Key := p.map Sum.inr
theorem kP_inj (a b : Cd.Path) (h : kP a = kP b) : a = b := List.map_inj_right (f := (Sum.inr : Str → Key)) (fun _ _ z => Sum.inr.inj z) |>.mp h
theorem inr_inj (a b : Str) (h : (Sum.inr a : Key) = Sum.inr b) : a = b := Sum.inr.inj h
/-- files and folders as data -/
abbrev thD (ts : Cd.Things) : D := .dT (ts.map fun q => (kP q.1, tD q.2))
def gT (ts : Cd.Things) (p : Cd.Path) : Cd.Thing := (lookK ts p).getD none
abbrev ksT (ts : Cd.Things) : List Cd.Path := psort (ts.map (·.1))
def wThings (ts : Cd.Things) : List Nat := Cd.wL ((ksT ts).map fun p => Cd.wPath p ++ Cd.wThing (gT ts p))
def itD (ts : Cd.Things) : D := .tup ((ksT ts).map fun p => .tup [pD p, tD (gT ts p)])
/-- the same in order -/
def canT (ts : Cd.Things) : Cd.Things := (ksT ts).map fun p => (p, gT ts p)
def TsO (ts : Cd.Things) : Prop := ts.length ≤ 6 ∧ ∀ q ∈ ts, PaO q.1 ∧ ThO q.2
theorem psort_idem (ps : List Cd.Path) : psort (psort ps) = psort ps := (psort_uniq (xs := psort ps) (ys := psort ps) (List.Perm.refl _) (gsort_ord SrtP.ltP_asym SrtP.ltP_trans SrtP.ltP_tot ps)).symm
theorem ssort_idem (ps : List Str) : ssort (ssort ps) = ssort ps := (ssort_uniq (xs := ssort ps) (ys := ssort ps) (List.Perm.refl _) (gsort_ord (lt := SrtP.ltS) (fun _ _ => SrtP.ltS_asym) (fun _ _ _ => SrtP.ltS_trans) (fun _ _ => SrtP.ltS_tot) ps)).symm
theorem canT_keys (ts : Cd.Things) : (canT ts).map (·.1) = ksT ts := by
  unfold canT
  rw [List.map_map]
  exact List.map_id _
theorem canT_ks (ts : Cd.Things) : ksT (canT ts) = ksT ts := by
  show psort ((canT ts).map (·.1)) = _
  rw [canT_keys]
  exact psort_idem _
theorem canT_g {ts : Cd.Things} {p : Cd.Path} (h : p ∈ ksT ts) : gT (canT ts) p = gT ts p := by
  unfold gT canT
  rw [lookK_fun (gT ts) h]
  rfl
theorem canT_w (ts : Cd.Things) : wThings (canT ts) = wThings ts := by
  unfold wThings
  rw [canT_ks]
  refine congrArg Cd.wL (List.map_congr_left fun p hp => ?_)
  rw [canT_g hp]
theorem canT_it (ts : Cd.Things) : itD (canT ts) = itD ts := by
  unfold itD
  rw [canT_ks]
  refine congrArg D.tup (List.map_congr_left fun p hp => ?_)
  rw [canT_g hp]
theorem ks_mem {ts : Cd.Things} {p : Cd.Path} (h : p ∈ ksT ts) : lookK ts p = some (gT ts p) ∧ (p, gT ts p) ∈ ts := by
  obtain ⟨v, e, hm⟩ := lookK_some ((psort_perm _).mem_iff.mp h)
  have : gT ts p = v := by unfold gT; rw [e]; rfl
  rw [this]
  exact ⟨e, hm⟩
theorem ks_len (ts : Cd.Things) : (ksT ts).length = ts.length := by
  rw [(psort_perm _).length_eq, List.length_map]
theorem canT_ok {ts : Cd.Things} (h : TsO ts) : TsO (canT ts) := by
  refine ⟨by unfold canT; rw [List.length_map, ks_len]; exact h.1, fun q hq => ?_⟩
  obtain ⟨p, hp, rfl⟩ := List.mem_map.mp hq
  exact h.2 _ (ks_mem hp).2
theorem wThings_len {ts : Cd.Things} (h : TsO ts) : (wThings ts).length ≤ 156430 := by
  have := wL_len (f := fun p => Cd.wPath p ++ Cd.wThing (gT ts p)) (B := 26070) (xs := ksT ts) (fun p hp => by
    have h1 : PaO p ∧ ThO (gT ts p) := h.2 _ (ks_mem hp).2
    have e1 := wPath_len h1.1
    have e2 := wThing_len h1.2
    have := h1.1.1
    rw [List.length_append]
    omega) (by rw [ks_len]; exact Nat.lt_of_le_of_lt h.1 (by decide))
  rw [ks_len] at this
  have h0 := h.1
  unfold wThings
  omega
theorem keysT_pD (p : Cd.Path) : keysT (.d (pD p)) = some (kP p) := by
  show keysD (p.map .str) = _
  induction p with
  | nil => rfl
  | cons s r ih =>
    rw [List.map_cons, keysD, ih]
    rfl
theorem thD_view (ts : Cd.Things) (st : Store) : viewDT st (.d (thD ts)) = some (ts.map fun q => (kP q.1, A.d (tD q.2))) := by
  show some ((ts.map fun q => (kP q.1, tD q.2)).map fun p => (p.1, A.d p.2)) = _
  rw [List.map_map]
  rfl
theorem ix_thD {ts : Cd.Things} {p : Cd.Path} (h : p ∈ ksT ts) (st : Store) : gIx (.d (thD ts)) (.d (pD p)) st = .ok (.d (tD (gT ts p))) st :=
  gIx_DT rfl rfl rfl (thD_view ts st) (keysT_pD p) (by
    rw [lookK_map kP kP_inj (fun t => A.d (tD t)), (ks_mem h).1]
    rfl)
theorem sort_thD (ts : Cd.Things) (st : Store) (h : ts.length ≤ 1000) : gSortA false [.d (thD ts)] st = .ok (.d (.list ((ksT ts).map pD))) st := by
  rw [gSortA_DT (g := .d (thD ts)) (ps := ts.map (·.1)) rfl rfl (thD_view ts st) (pathsK_map _ _ ts)]
  have : (((psort (ts.map (·.1))).map pD).map A.d).length ≤ SZ := by rw [List.length_map, List.length_map, ks_len]; unfold SZ; omega
  walk_at "ev"
theorem x_write_things {ts : Cd.Things} (h : TsO ts) (st : Store) : m_write_things [.d (thD ts)] st = .ok (.d (bL (wThings ts))) st := by
  have hl := wThings_len h
  have h0 := h.1
  have h1 := x_write_list (ws := (ksT ts).map fun p => Cd.wPath p ++ Cd.wThing (gT ts p)) (by rw [List.length_map, ks_len]; exact Nat.lt_of_le_of_lt h0 (by decide)) (show (wThings ts).length ≤ SZ by unfold SZ; omega) st
  have hs := sort_thD ts st (by omega)
  unfold m_write_things b_write_things
  walk_at "ev"
  rw [mLc_datJ (f := pD) (fun p => bL (Cd.wPath p ++ Cd.wThing (gT ts p))) (xs := ksT ts) (st1 := st) (ok := fun s => viewS s (.d (.list ((ksT ts).map pD))) = some (((ksT ts).map pD).map A.d)) (by
    rw [iAny_ap]
    walk_at "ev*") (fun L => rfl) (by rw [ks_len]; unfold SZ; omega) (fun p hp L => by
      have hq : PaO p ∧ ThO (gT ts p) := h.2 _ (ks_mem hp).2
      obtain ⟨J, e3⟩ := x_write_thing hq.2 (st ++ L)
      refine ⟨[some (.d (thD ts)), some (.d (pD p))], J, rfl, ?_⟩
      have e2 := x_write_path hq.1 (st ++ L)
      have e1 := ix_thD hp (st ++ L)
      have l1 := wPath_len hq.1
      have l2 := wThing_len hq.2
      have l3 := hq.1.1
      have e4 : (Cd.wPath p).map iN ++ (Cd.wThing (gT ts p)).map iN = (Cd.wPath p ++ Cd.wThing (gT ts p)).map iN := by rw [List.map_append]
      have s1 : ((((Cd.wPath p).map iN ++ (Cd.wThing (gT ts p)).map iN)).map A.d).length ≤ SZ := by rw [List.length_map, List.length_append, List.length_map, List.length_map]; unfold SZ; omega
      clear h1 hs
      walk_at "ev*")]
  have e : (ksT ts).map (fun p => bL (Cd.wPath p ++ Cd.wThing (gT ts p))) = lD ((ksT ts).map fun p => Cd.wPath p ++ Cd.wThing (gT ts p)) := by unfold lD; rw [List.map_map]; rfl
  rw [e]
  walk_at "ev*"
  rfl
theorem x_sorted_things {ts : Cd.Things} (h : ts.length ≤ 1000) (st : Store) : m_sorted_things [.d (thD ts)] st = .ok (.d (itD ts)) st := by
  have hs := sort_thD ts st h
  unfold m_sorted_things b_sorted_things
  walk_at "ev"
  rw [mLc_datJ (f := pD) (fun p => .tup [pD p, tD (gT ts p)]) (xs := ksT ts) (st1 := st) (ok := fun s => viewS s (.d (.list ((ksT ts).map pD))) = some (((ksT ts).map pD).map A.d)) (by
    rw [iAny_ap]
    walk_at "ev*") (fun L => rfl) (by rw [ks_len]; unfold SZ; omega) (fun p hp L => by
      refine ⟨[some (.d (thD ts)), some (.d (pD p))], [], rfl, ?_⟩
      have e1 := ix_thD hp (st ++ L)
      clear hs
      walk_at "ev*")]
  have s1 : (((ksT ts).map fun p => D.tup [pD p, tD (gT ts p)]).map A.d).length ≤ SZ := by rw [List.length_map, List.length_map, ks_len]; unfold SZ; omega
  walk_at "ev*"
  rfl
end
end Lw
namespace Lw
open PySem PySem.Spec PyProof.Rows L2 Am
section
variable {P : Program} {w : World} {K : PySem.W.Frag} {mg : Str → Option Value} {base : Heap}
/-- a record as data -/
def rD : Cd.Rec → D
  | .folder p => .tup [.str "folder", pD p]
  | .file p => .tup [.str "file", pD p]
  | .put p l ts => .tup [.str "put", pD p, iN l, .tup (ts.map fun q => .tup [iN q.1, iN q.2])]
  | .trim p l b => .tup [.str "trim", pD p, iN l, iN b]
  | .move p q => .tup [.str "move", pD p, pD q]
  | .drop p => .tup [.str "drop", pD p]
  | .snap n => .tup [.str "snap", .str n]
  | .forget n => .tup [.str "forget", .str n]
  | .back n => .tup [.str "back", .str n]
def RcO : Cd.Rec → Prop
  | .folder p => PaO p
  | .file p => PaO p
  | .put p l ts => PaO p ∧ l < Cd.N70 ∧ ts.length ≤ 1000 ∧ ∀ q ∈ ts, q.1 < Cd.N70 ∧ q.2 < Cd.N70
  | .trim p l b => PaO p ∧ l < Cd.N70 ∧ b < Cd.N70
  | .move p q => PaO p ∧ PaO q
  | .drop p => PaO p
  | .snap n => NmO n
  | .forget n => NmO n
  | .back n => NmO n
theorem wPair_len {q : Nat × Nat} (h : q.1 < Cd.N70 ∧ q.2 < Cd.N70) : (Cd.wPair q).length ≤ 20 := by
  unfold Cd.wPair
  rw [List.length_append]
  have := Cd.wN_10 h.1
  have := Cd.wN_10 h.2
  omega
theorem wPairs_len {ts : List (Nat × Nat)} (h : ∀ q ∈ ts, q.1 < Cd.N70 ∧ q.2 < Cd.N70) (h2 : ts.length ≤ 1000) : (Cd.wL (ts.map Cd.wPair)).length ≤ 20010 := by
  have := wL_len (f := Cd.wPair) (B := 20) (xs := ts) (fun q hq => wPair_len (h q hq)) (Nat.lt_of_le_of_lt h2 (by decide))
  omega
theorem paO_len {p : Cd.Path} (h : PaO p) : (Cd.wPath p).length ≤ 101010 := by
  have := wPath_len h
  have := h.1
  omega
theorem nmO_len {n : Str} (h : NmO n) : (Cd.wName n).length ≤ 1010 := by
  have := wName_len h.1
  have := h.2.1
  omega
theorem wRec_len {r : Cd.Rec} (h : RcO r) : (Cd.wRec r).length ≤ 210000 := by
  cases r with
  | folder p => have := paO_len h; show (_ :: Cd.wPath p).length ≤ _; rw [List.length_cons]; omega
  | file p => have := paO_len h; show (_ :: Cd.wPath p).length ≤ _; rw [List.length_cons]; omega
  | drop p => have := paO_len h; show (_ :: Cd.wPath p).length ≤ _; rw [List.length_cons]; omega
  | snap n => have := nmO_len h; show (_ :: Cd.wName n).length ≤ _; rw [List.length_cons]; omega
  | forget n => have := nmO_len h; show (_ :: Cd.wName n).length ≤ _; rw [List.length_cons]; omega
  | back n => have := nmO_len h; show (_ :: Cd.wName n).length ≤ _; rw [List.length_cons]; omega
  | move p q => have := paO_len h.1; have := paO_len h.2; show (_ :: (Cd.wPath p ++ Cd.wPath q)).length ≤ _; rw [List.length_cons, List.length_append]; omega
  | trim p l b => have := paO_len h.1; have := Cd.wN_10 h.2.1; have := Cd.wN_10 h.2.2; show (_ :: (Cd.wPath p ++ (Cd.wN l ++ Cd.wN b))).length ≤ _; rw [List.length_cons, List.length_append, List.length_append]; omega
  | put p l ts => have := paO_len h.1; have := Cd.wN_10 h.2.1; have := wPairs_len h.2.2.2 h.2.2.1; show (_ :: (Cd.wPath p ++ (Cd.wN l ++ Cd.wL (ts.map Cd.wPair)))).length ≤ _; rw [List.length_cons, List.length_append, List.length_append]; omega
abbrev wordsS : List Str := ["folder", "file", "put", "trim", "move", "drop", "snap", "forget", "back"]
theorem x_write_record {r : Cd.Rec} (h : RcO r) (st : Store) : ∃ J, m_write_record [.d (rD r)] st = .ok (.d (bL (Cd.wRec r))) (st ++ J) := by
  have kI := mKIdx_ap wordsS
  unfold m_write_record b_write_record
  cases r with
  | folder p =>
    refine ⟨[], ?_⟩
    have l1 := paO_len h
    have e1 := x_write_path h st
    have a1 : gAdd false (.d (.list [.int ((0 : Nat) : Int)])) (.d (bL (Cd.wPath p))) st = .ok (.d (bL (Cd.wRec (.folder p)))) st := gAdd_bL [0] _ st (by rw [List.length_singleton]; unfold SZ; omega)
    generalize Cd.wRec (.folder p) = Z at *
    have wi := wi_folder st
    have wn := wn_folder st
    have w1 := wput_folder st
    have w2 := wtrim_folder st
    have w3 := wmove_folder st
    unfold rD
    walk_at "ev*"
  | file p =>
    refine ⟨[], ?_⟩
    have l1 := paO_len h
    have e1 := x_write_path h st
    have a1 : gAdd false (.d (.list [.int ((1 : Nat) : Int)])) (.d (bL (Cd.wPath p))) st = .ok (.d (bL (Cd.wRec (.file p)))) st := gAdd_bL [1] _ st (by rw [List.length_singleton]; unfold SZ; omega)
    generalize Cd.wRec (.file p) = Z at *
    have wi := wi_file st
    have wn := wn_file st
    have w1 := wput_file st
    have w2 := wtrim_file st
    have w3 := wmove_file st
    unfold rD
    walk_at "ev*"
  | drop p =>
    refine ⟨[], ?_⟩
    have l1 := paO_len h
    have e1 := x_write_path h st
    have a1 : gAdd false (.d (.list [.int ((5 : Nat) : Int)])) (.d (bL (Cd.wPath p))) st = .ok (.d (bL (Cd.wRec (.drop p)))) st := gAdd_bL [5] _ st (by rw [List.length_singleton]; unfold SZ; omega)
    generalize Cd.wRec (.drop p) = Z at *
    have wi := wi_drop st
    have wn := wn_drop st
    have w1 := wput_drop st
    have w2 := wtrim_drop st
    have w3 := wmove_drop st
    unfold rD
    walk_at "ev*"
  | snap n =>
    refine ⟨[], ?_⟩
    have l1 := nmO_len h
    have e1 := x_write_name h.1 st
    have a1 : gAdd false (.d (.list [.int ((6 : Nat) : Int)])) (.d (bL (Cd.wName n))) st = .ok (.d (bL (Cd.wRec (.snap n)))) st := gAdd_bL [6] _ st (by rw [List.length_singleton]; unfold SZ; omega)
    generalize Cd.wRec (.snap n) = Z at *
    have wi := wi_snap st
    have wn := wn_snap st
    unfold rD
    walk_at "ev*"
  | forget n =>
    refine ⟨[], ?_⟩
    have l1 := nmO_len h
    have e1 := x_write_name h.1 st
    have a1 : gAdd false (.d (.list [.int ((7 : Nat) : Int)])) (.d (bL (Cd.wName n))) st = .ok (.d (bL (Cd.wRec (.forget n)))) st := gAdd_bL [7] _ st (by rw [List.length_singleton]; unfold SZ; omega)
    generalize Cd.wRec (.forget n) = Z at *
    have wi := wi_forget st
    have wn := wn_forget st
    unfold rD
    walk_at "ev*"
  | back n =>
    refine ⟨[], ?_⟩
    have l1 := nmO_len h
    have e1 := x_write_name h.1 st
    have a1 : gAdd false (.d (.list [.int ((8 : Nat) : Int)])) (.d (bL (Cd.wName n))) st = .ok (.d (bL (Cd.wRec (.back n)))) st := gAdd_bL [8] _ st (by rw [List.length_singleton]; unfold SZ; omega)
    generalize Cd.wRec (.back n) = Z at *
    have wi := wi_back st
    have wn := wn_back st
    unfold rD
    walk_at "ev*"
  | move p q =>
    refine ⟨[], ?_⟩
    have l1 := paO_len h.1
    have l2 := paO_len h.2
    have e1 := x_write_path h.1 st
    have e2 := x_write_path h.2 st
    have a1 : gAdd false (.d (.list [.int ((4 : Nat) : Int)])) (.d (bL (Cd.wPath p))) st = .ok (.d (bL (4 :: Cd.wPath p))) st := gAdd_bL [4] _ st (by rw [List.length_singleton]; unfold SZ; omega)
    have a2 : gAdd false (.d (bL (4 :: Cd.wPath p))) (.d (bL (Cd.wPath q))) st = .ok (.d (bL (Cd.wRec (.move p q)))) st := gAdd_bL (4 :: Cd.wPath p) _ st (by rw [List.length_cons]; unfold SZ; omega)
    generalize Cd.wRec (.move p q) = Z at *
    generalize 4 :: Cd.wPath p = Z1 at *
    have wi := wi_move st
    have wn := wn_move st
    have w1 := wput_move st
    have w2 := wtrim_move st
    have w3 := wmove_move st
    unfold rD
    walk_at "ev*"
  | trim p l b =>
    have l1 := paO_len h.1
    have l2 := Cd.wN_10 h.2.1
    have l3 := Cd.wN_10 h.2.2
    refine ⟨[.fz (bL (Cd.wN l)), .fz (bL (Cd.wN b))], ?_⟩
    have e1 := x_write_path h.1 st
    have e2 := x_wnF h.2.1 st
    have e3 := x_wnF h.2.2 (st ++ [.fz (bL (Cd.wN l))])
    have a1 : gAdd false (.d (.list [.int ((3 : Nat) : Int)])) (.d (bL (Cd.wPath p))) st = .ok (.d (bL (3 :: Cd.wPath p))) st := gAdd_bL [3] _ st (by rw [List.length_singleton]; unfold SZ; omega)
    have a2 : gAdd false (.d (bL (3 :: Cd.wPath p))) (.d (bL (Cd.wN l))) (st ++ [.fz (bL (Cd.wN l))]) = .ok (.d (bL (3 :: Cd.wPath p ++ Cd.wN l))) (st ++ [.fz (bL (Cd.wN l))]) := gAdd_bL (3 :: Cd.wPath p) _ _ (by rw [List.length_cons]; unfold SZ; omega)
    have a3 : gAdd false (.d (bL (3 :: Cd.wPath p ++ Cd.wN l))) (.d (bL (Cd.wN b))) (st ++ [.fz (bL (Cd.wN l))] ++ [.fz (bL (Cd.wN b))]) = .ok (.d (bL (Cd.wRec (.trim p l b)))) (st ++ [.fz (bL (Cd.wN l))] ++ [.fz (bL (Cd.wN b))]) := by
      rw [gAdd_bL (3 :: Cd.wPath p ++ Cd.wN l) _ _ (by rw [List.length_append, List.length_cons]; unfold SZ; omega), List.append_assoc]
      rfl
    generalize Cd.wRec (.trim p l b) = Z at *
    generalize 3 :: Cd.wPath p ++ Cd.wN l = Z2 at *
    generalize 3 :: Cd.wPath p = Z1 at *
    simp only [List.append_assoc, List.cons_append, List.nil_append] at e3 a3
    have wi := wi_trim st
    have wn := wn_trim st
    have w1 := wput_trim st
    have w2 := wtrim_trim st
    unfold rD
    walk_at "ev*"
  | put p l ts =>
    obtain ⟨h1, h2, h3, h4⟩ := h
    have l1 := paO_len h1
    have l2 := Cd.wN_10 h2
    have l3 := wPairs_len h4 h3
    refine ⟨[.fz (bL (Cd.wN l))], ?_⟩
    have e1 := x_write_path h1 st
    have e2 := x_wnF h2 st
    have e3 := x_write_list (ws := ts.map Cd.wPair) (by rw [List.length_map]; exact Nat.lt_of_le_of_lt h3 (by decide)) (by unfold SZ; omega) (st ++ [.fz (bL (Cd.wN l))])
    have a1 : gAdd false (.d (.list [.int ((2 : Nat) : Int)])) (.d (bL (Cd.wPath p))) st = .ok (.d (bL (2 :: Cd.wPath p))) st := gAdd_bL [2] _ st (by rw [List.length_singleton]; unfold SZ; omega)
    have a2 : gAdd false (.d (bL (2 :: Cd.wPath p))) (.d (bL (Cd.wN l))) (st ++ [.fz (bL (Cd.wN l))]) = .ok (.d (bL (2 :: Cd.wPath p ++ Cd.wN l))) (st ++ [.fz (bL (Cd.wN l))]) := gAdd_bL (2 :: Cd.wPath p) _ _ (by rw [List.length_cons]; unfold SZ; omega)
    have a3 : gAdd false (.d (bL (2 :: Cd.wPath p ++ Cd.wN l))) (.d (bL (Cd.wL (ts.map Cd.wPair)))) (st ++ [.fz (bL (Cd.wN l))]) = .ok (.d (bL (Cd.wRec (.put p l ts)))) (st ++ [.fz (bL (Cd.wN l))]) := by
      rw [gAdd_bL (2 :: Cd.wPath p ++ Cd.wN l) _ _ (by rw [List.length_append, List.length_cons]; unfold SZ; omega), List.append_assoc]
      rfl
    have hc : mLc false [4, 5] (pt2 4 5) (iAnyM (mBin gIx (mVar 0) (mC (.int 3)))) mYes (mBin (gAdd false) (mFrz (mCall m_write_number (mCons (mVar 4) mNil))) (mFrz (mCall m_write_number (mCons (mVar 5) mNil)))) [some (.d (rD (.put p l ts))), some (.d (.str "put")), some (.d (bL (2 :: Cd.wPath p))), none, none, none] st = .ok (.d (.list (lD (ts.map Cd.wPair)))) st := by
      rw [mLc_datJ (f := fun q : Nat × Nat => .tup [iN q.1, iN q.2]) (fun q => bL (Cd.wPair q)) (xs := ts) (st1 := st) (ok := fun _ => True) (by
        rw [iAny_ap]
        unfold rD
        walk_at "ev") (fun L => trivial) (by unfold SZ; omega) (fun q hq L => by
          obtain ⟨i, j⟩ := q
          have hq' : i < Cd.N70 ∧ j < Cd.N70 := h4 _ hq
          refine ⟨[some (.d (rD (.put p l ts))), some (.d (.str "put")), some (.d (bL (2 :: Cd.wPath p))), none, some (.d (iN i)), some (.d (iN j))], [.fz (bL (Cd.wN i)), .fz (bL (Cd.wN j))], rfl, ?_⟩
          have n1 := x_wnF hq'.1 (st ++ L)
          have n2 := x_wnF hq'.2 (st ++ L ++ [.fz (bL (Cd.wN i))])
          have l1 := Cd.wN_10 hq'.1
          have l2 := Cd.wN_10 hq'.2
          have a1 : gAdd false (.d (bL (Cd.wN i))) (.d (bL (Cd.wN j))) (st ++ L ++ [.fz (bL (Cd.wN i))] ++ [.fz (bL (Cd.wN j))]) = .ok (.d (bL (Cd.wPair (i, j)))) (st ++ L ++ [.fz (bL (Cd.wN i))] ++ [.fz (bL (Cd.wN j))]) := gAdd_bL _ _ _ (by unfold SZ; omega)
          simp only [List.append_assoc, List.cons_append, List.nil_append] at n1 n2 a1 ⊢
          generalize Cd.wPair (i, j) = Z at *
          generalize st ++ (L ++ [.fz (bL (Cd.wN i)), .fz (bL (Cd.wN j))]) = S2 at *
          generalize st ++ (L ++ [.fz (bL (Cd.wN i))]) = S1 at *
          generalize st ++ L = S0 at *
          generalize rD (.put p l ts) = R at *
          clear e1 e2 e3 a2 a3
          walk_at "ev*")]
      unfold lD
      rw [List.map_map]
      rfl
    generalize Cd.wRec (.put p l ts) = Z at *
    generalize 2 :: Cd.wPath p ++ Cd.wN l = Z2 at *
    generalize 2 :: Cd.wPath p = Z1 at *
    have wi := wi_put st
    have wn := wn_put st
    have w1 := wput_put st
    have i0 : gIx (.d (rD (.put p l ts))) (.d (.int 0)) st = .ok (.d (.str "put")) st := rfl
    have i1 : gIx (.d (rD (.put p l ts))) (.d (.int 1)) st = .ok (.d (pD p)) st := rfl
    have i2 : gIx (.d (rD (.put p l ts))) (.d (.int 2)) st = .ok (.d (iN l)) st := rfl
    generalize rD (.put p l ts) = R at *
    generalize Cd.wL (ts.map Cd.wPair) = Z3 at *
    generalize lD (ts.map Cd.wPair) = Z4 at *
    walk_at "ev*"
theorem x_write_group {st : Store} {rs : List Cd.Rec} (h : ∀ r ∈ rs, RcO r) (h2 : rs.length ≤ 10) {a : A} (ha : ∀ L, viewS (st ++ L) a = some ((rs.map rD).map A.d)) : m_write_group [a] st = .ok (.d (bL (Cd.wGroup rs))) st := by
  have hl := wL_len (f := Cd.wRec) (B := 210000) (xs := rs) (fun r hr => wRec_len (h r hr)) (Nat.lt_of_le_of_lt h2 (by decide))
  have h1 := x_write_list (ws := rs.map Cd.wRec) (by rw [List.length_map]; exact Nat.lt_of_le_of_lt h2 (by decide)) (show _ ≤ SZ by unfold SZ; omega) st
  unfold m_write_group b_write_group
  walk_at "ev"
  rw [mLc_datJ (f := rD) (fun r => bL (Cd.wRec r)) (xs := rs) (st1 := st) (ok := fun s => viewS s a = some ((rs.map rD).map A.d)) (by
    rw [iAny_ap]
    walk_at "ev"
    show (match viewS st a with | some xs => _ | none => _) = _
    rw [show viewS st a = some ((rs.map rD).map A.d) by simpa using ha []]) (fun L => ha L) (by unfold SZ; omega) (fun r hr L => by
      obtain ⟨J, e⟩ := x_write_record (h r hr) (st ++ L)
      exact ⟨[some a, some (.d (rD r))], J, rfl, e⟩)]
  have e : rs.map (fun r => bL (Cd.wRec r)) = lD (rs.map Cd.wRec) := by unfold lD; rw [List.map_map]; rfl
  rw [e]
  walk_at "ev*"
  rfl
end
end Lw
namespace Lw
open PySem PySem.Spec PyProof.Rows L2 Am
section
variable {P : Program} {w : World} {K : PySem.W.Frag} {mg : Str → Option Value} {base : Heap}
abbrev Snaps := List (Str × Cd.Things)
abbrev snD (ss : Snaps) : D := .dK (ss.map fun q => (.inr q.1, thD q.2))
abbrev ksS (ss : Snaps) : List Str := ssort (ss.map (·.1))
def gS (ss : Snaps) (n : Str) : Cd.Things := (lookK ss n).getD []
def wSnap (ss : Snaps) (n : Str) : List Nat := Cd.wName n ++ wThings (gS ss n)
def wSnaps (ss : Snaps) : List Nat := Cd.wL ((ksS ss).map (wSnap ss))
def lsD (ss : Snaps) : D := .tup ((ksS ss).map fun n => .tup [.str n, itD (gS ss n)])
def wImage (c : Nat) (ts : Cd.Things) (ss : Snaps) : List Nat := (Cd.wN c ++ wThings ts) ++ wSnaps ss
def canS (ss : Snaps) : Snaps := (ksS ss).map fun n => (n, canT (gS ss n))
def SnO (ss : Snaps) : Prop := ss.length ≤ 5 ∧ ∀ q ∈ ss, NmO q.1 ∧ TsO q.2
theorem sn_mem {ss : Snaps} {n : Str} (h : n ∈ ksS ss) : lookK ss n = some (gS ss n) ∧ (n, gS ss n) ∈ ss := by
  obtain ⟨v, e, hm⟩ := lookK_some ((ssort_perm _).mem_iff.mp h)
  have : gS ss n = v := by unfold gS; rw [e]; rfl
  rw [this]
  exact ⟨e, hm⟩
theorem sn_len (ss : Snaps) : (ksS ss).length = ss.length := by
  rw [(ssort_perm _).length_eq, List.length_map]
theorem canS_keys (ss : Snaps) : (canS ss).map (·.1) = ksS ss := by
  unfold canS
  rw [List.map_map]
  exact List.map_id _
theorem canS_ks (ss : Snaps) : ksS (canS ss) = ksS ss := by
  show ssort ((canS ss).map (·.1)) = _
  rw [canS_keys]
  exact ssort_idem _
theorem canS_g {ss : Snaps} {n : Str} (h : n ∈ ksS ss) : gS (canS ss) n = canT (gS ss n) := by
  unfold gS canS
  rw [lookK_fun (fun n => canT (gS ss n)) h]
  rfl
theorem canS_w (ss : Snaps) : wSnaps (canS ss) = wSnaps ss := by
  unfold wSnaps
  rw [canS_ks]
  refine congrArg Cd.wL (List.map_congr_left fun p hp => ?_)
  unfold wSnap
  rw [canS_g hp, canT_w]
theorem canS_ls (ss : Snaps) : lsD (canS ss) = lsD ss := by
  unfold lsD
  rw [canS_ks]
  refine congrArg D.tup (List.map_congr_left fun p hp => ?_)
  rw [canS_g hp, canT_it]
theorem canS_ok {ss : Snaps} (h : SnO ss) : SnO (canS ss) := by
  refine ⟨by unfold canS; rw [List.length_map, sn_len]; exact h.1, fun q hq => ?_⟩
  obtain ⟨n, hn, rfl⟩ := List.mem_map.mp hq
  have h1 : NmO n ∧ TsO (gS ss n) := h.2 _ (sn_mem hn).2
  exact ⟨h1.1, canT_ok h1.2⟩
theorem wSnap_len {ss : Snaps} (h : SnO ss) {n : Str} (hn : n ∈ ksS ss) : (Cd.wName n).length ≤ 1010 ∧ (wThings (gS ss n)).length ≤ 156430 := by
  have h1 : NmO n ∧ TsO (gS ss n) := h.2 _ (sn_mem hn).2
  exact ⟨nmO_len h1.1, wThings_len h1.2⟩
theorem wSnaps_len {ss : Snaps} (h : SnO ss) : (wSnaps ss).length ≤ 787210 := by
  have := wL_len (f := wSnap ss) (B := 157440) (xs := ksS ss) (fun p hp => by
    obtain ⟨e1, e2⟩ := wSnap_len h hp
    unfold wSnap
    rw [List.length_append]
    omega) (by rw [sn_len]; exact Nat.lt_of_le_of_lt h.1 (by decide))
  rw [sn_len] at this
  have h0 := h.1
  unfold wSnaps
  omega
theorem snD_view (ss : Snaps) (st : Store) : viewK st (.d (snD ss)) = some (ss.map fun q => ((.inr q.1 : Key), A.d (thD q.2))) := by
  show some ((ss.map fun q => ((.inr q.1 : Key), thD q.2)).map fun p => (p.1, A.d p.2)) = _
  rw [List.map_map]
  rfl
theorem ix_snV {ss : Snaps} {n : Str} (h : n ∈ ksS ss) {g : A} {st : Store} (hg : viewK st g = some (ss.map fun q => ((.inr q.1 : Key), A.d (thD q.2)))) : gIx g (.d (.str n)) st = .ok (.d (thD (gS ss n))) st :=
  gIx_K (k := .inr n) hg rfl (by
    rw [lookK_map (κ' := Key) Sum.inr inr_inj (fun t => A.d (thD t)), (sn_mem h).1]
    rfl)
theorem sort_snV (ss : Snaps) {g : A} {st : Store} (hg : viewK st g = some (ss.map fun q => ((.inr q.1 : Key), A.d (thD q.2)))) (h : ss.length ≤ 10) : gSortA false [g] st = .ok (.d (.list ((ksS ss).map D.str))) st := by
  rw [gSortA_KS (ss := ss.map (·.1)) (viewS_K hg) hg (by
    cases ss with
    | nil => exact .inr rfl
    | cons q r => exact .inl rfl) (strsK_map _ _ ss) (by rw [List.length_map]; omega)]
  have : (((ssort (ss.map (·.1))).map D.str).map A.d).length ≤ SZ := by rw [List.length_map, List.length_map, sn_len]; unfold SZ; omega
  walk_at "ev"
def stD (ts : Cd.Things) (ss : Snaps) : D := .ins "State" [("stripes", .int 9), ("block", .int 64), ("things", thD ts), ("snapshots", snD ss)]
theorem stD_view (ts : Cd.Things) (ss : Snaps) (st : Store) : viewI st (.d (stD ts ss)) = some (("State" : Str), F_State (.d (.int 9)) (.d (.int 64)) (.d (thD ts)) (.d (snD ss))) := rfl
theorem x_write_image {c : Nat} {ts : Cd.Things} {ss : Snaps} (hc : c < Cd.N70) (h1 : TsO ts) (h2 : SnO ss) (st : Store) : ∃ J, m_write_image [.d (iN c), .d (stD ts ss)] st = .ok (.d (bL (wImage c ts ss))) (st ++ J) := by
  refine ⟨[.fz (bL (Cd.wN c))], ?_⟩
  have hv := stD_view ts ss
  have l1 := Cd.wN_10 hc
  have l2 := wThings_len h1
  have l3 := wSnaps_len h2
  have h0 := h2.1
  have e1 := x_wnF hc st
  have e2 := x_write_things h1 (st ++ [.fz (bL (Cd.wN c))])
  have a1 := gAdd_bL (Cd.wN c) (wThings ts) (st ++ [.fz (bL (Cd.wN c))]) (by unfold SZ; omega)
  have a2 : gAdd false (.d (bL (Cd.wN c ++ wThings ts))) (.d (bL (wSnaps ss))) (st ++ [.fz (bL (Cd.wN c))]) = .ok (.d (bL (wImage c ts ss))) (st ++ [.fz (bL (Cd.wN c))]) := gAdd_bL (Cd.wN c ++ wThings ts) (wSnaps ss) (st ++ [.fz (bL (Cd.wN c))]) (by rw [List.length_append]; unfold SZ; omega)
  have hs := sort_snV ss (snD_view ss st) (by omega)
  have e3 : m_write_list [.d (.list (lD ((ksS ss).map (wSnap ss))))] (st ++ [.fz (bL (Cd.wN c))]) = .ok (.d (bL (wSnaps ss))) (st ++ [.fz (bL (Cd.wN c))]) := x_write_list (ws := (ksS ss).map (wSnap ss)) (by rw [List.length_map, sn_len]; exact Nat.lt_of_le_of_lt h0 (by decide)) (show (wSnaps ss).length ≤ SZ by unfold SZ; omega) (st ++ [.fz (bL (Cd.wN c))])
  unfold m_write_image b_write_image
  walk_at "ev"
  rw [mLc_datJ (f := D.str) (fun n => bL (wSnap ss n)) (xs := ksS ss) (st1 := st) (ok := fun s => viewS s (.d (.list ((ksS ss).map D.str))) = some (((ksS ss).map D.str).map A.d)) (by
    rw [iAny_ap]
    clear e1 e2 e3 a1 a2
    walk_at "ev*") (fun L => rfl) (by rw [sn_len]; unfold SZ; omega) (fun n hn L => by
      have hq : NmO n ∧ TsO (gS ss n) := h2.2 _ (sn_mem hn).2
      refine ⟨[some (.d (iN c)), some (.d (stD ts ss)), none, some (.d (.str n))], [], rfl, ?_⟩
      obtain ⟨q1, q2⟩ := wSnap_len h2 hn
      have e4 := x_write_name hq.1.1 (st ++ L)
      have e5 := x_write_things hq.2 (st ++ L)
      have e6 := ix_snV hn (snD_view ss (st ++ L))
      have e7 : gAdd false (.d (bL (Cd.wName n))) (.d (bL (wThings (gS ss n)))) (st ++ L) = .ok (.d (bL (wSnap ss n))) (st ++ L) := gAdd_bL _ _ _ (by unfold SZ; omega)
      clear e1 e2 e3 a1 a2 hs
      walk_at "ev*")]
  have e : (ksS ss).map (fun n => bL (wSnap ss n)) = lD ((ksS ss).map (wSnap ss)) := by unfold lD; rw [List.map_map]; rfl
  rw [e]
  generalize lD ((ksS ss).map (wSnap ss)) = Z at *
  generalize wImage c ts ss = Z1 at *
  generalize Cd.wN c ++ wThings ts = Z2 at *
  clear hs
  walk_at "ev*"
theorem x_state_data {ts : Cd.Things} {ss : Snaps} (h1 : TsO ts) (h2 : SnO ss) (st : Store) : m_State_data [.d (stD ts ss)] st = .ok (.d (.tup [itD ts, lsD ss])) st := by
  have hv := stD_view ts ss
  have h0 := h2.1
  have e2 := x_sorted_things (ts := ts) (by have := h1.1; omega) st
  have hs := sort_snV ss (snD_view ss st) (by omega)
  unfold m_State_data b_State_data
  walk_at "ev"
  rw [mLc_datJ (f := D.str) (fun n => .tup [.str n, itD (gS ss n)]) (xs := ksS ss) (st1 := st) (ok := fun s => viewS s (.d (.list ((ksS ss).map D.str))) = some (((ksS ss).map D.str).map A.d)) (by
    rw [iAny_ap]
    clear e2
    walk_at "ev*") (fun L => rfl) (by rw [sn_len]; unfold SZ; omega) (fun n hn L => by
      have hq : NmO n ∧ TsO (gS ss n) := h2.2 _ (sn_mem hn).2
      refine ⟨[some (.d (stD ts ss)), none, some (.d (.str n))], [], rfl, ?_⟩
      have e5 := x_sorted_things (ts := gS ss n) (by have := hq.2.1; omega) (st ++ L)
      have e6 := ix_snV hn (snD_view ss (st ++ L))
      clear e2 hs
      walk_at "ev*")]
  have s1 : (((ksS ss).map fun n => D.tup [.str n, itD (gS ss n)]).map A.d).length ≤ SZ := by rw [List.length_map, List.length_map, sn_len]; unfold SZ; omega
  clear hs
  walk_at "ev*"
  rfl
end
end Lw
namespace Lw
open PySem PySem.Spec PyProof.Rows L2 Am
section
variable {P : Program} {w : World} {K : PySem.W.Frag} {mg : Str → Option Value} {base : Heap}
theorem x_lnum {n : Nat} (hn : n < Cd.N70) (st : Store) : m__law_number [.d (.int n)] st = .ok (.d (bL (Cd.wN n))) st := by
  have hl := Cd.wN_10 hn
  unfold m__law_number b__law_number
  walk_at "ev"
  generalize ho : forA _ _ _ _ _ _ = o
  obtain ⟨σ1, st1, rfl, m, P, y, rfl, rfl, e, hm⟩ := forR_nx (n := 12) ho (fun i σ s => ∃ (m : Nat) (P : List Nat) (y : Option A), σ = [some (.d (.int m)), some (.c st.length), y] ∧ s = st ++ [.lst (iA P)] ∧ P ++ Cd.wN m = Cd.wN n ∧ (m < 128 ∨ ∃ k, k + i = 11 ∧ m < 128 ^ k))
    ⟨n, [], _, rfl, rfl, rfl, .inr ⟨11, rfl, Nat.lt_of_lt_of_le hn (by decide)⟩⟩ (fun _ _ _ _ _ => trivial) (fun i σ s hi ⟨m, P, y, e1, e2, e, hm⟩ => by
      subst e1 e2
      by_cases c : m < 128
      · have h1 : decide ((127 : Int) < (m : Int)) = false := decide_eq_false (by omega)
        refine nxt_of (σ := [some (.d (.int m)), some (.c st.length), some (.d (.int (0 + (i : Nat))))]) (st := st ++ [.lst (iA P)]) ?_ ⟨m, P, _, rfl, rfl, e, .inl c⟩
        clear ho e hm
        walk_at "ev*"
      · have h1 : decide ((127 : Int) < (m : Int)) = true := decide_eq_true (by omega)
        rcases hm with hm | ⟨k, hk, hm⟩
        · exact absurd hm c
        have hp : P.length ≤ 10 := by
          have := congrArg List.length e
          rw [List.length_append] at this
          omega
        have h2 : 128 + (m : Int) % 128 = ((m % 128 + 128 : Nat) : Int) := by omega
        have h3 : (m : Int) / 128 = ((m / 128 : Nat) : Int) := by omega
        have h4 : iA P ++ [A.d (.int ((m % 128 + 128 : Nat) : Int))] = iA (P ++ [m % 128 + 128]) := by rw [← iA_app]; rfl
        have h5 : (iA P).length < SZ := by rw [iA_len]; unfold SZ; omega
        refine nxt_of (σ := [some (.d (.int ((m / 128 : Nat) : Int))), some (.c st.length), some (.d (.int (0 + (i : Nat))))]) (st := st ++ [.lst (iA (P ++ [m % 128 + 128]))]) ?_ ⟨m / 128, P ++ [m % 128 + 128], _, rfl, rfl, ?_, ?_⟩
        · clear ho e hm hk hi
          walk_at "ev*"
        · rw [← e, Cd.wN_hi c, List.append_assoc]
          rfl
        · cases k with
          | zero => simp at hm; omega
          | succ k =>
            refine .inr ⟨k, by omega, ?_⟩
            rw [Nat.pow_succ] at hm
            exact Nat.div_lt_of_lt_mul (by rw [Nat.mul_comm]; exact hm))
  have hm : m < 128 := by
    rcases hm with hm | ⟨k, hk, _⟩
    · exact hm
    · omega
  rw [Cd.wN_lo hm] at e
  have h5 : iA P ++ [A.d (.int (m : Int))] = iA (Cd.wN n) := by rw [← e, ← iA_app]; rfl
  have h6 : (iA (Cd.wN n)).length ≤ SZ := by rw [iA_len]; unfold SZ; omega
  have h8 : (((Cd.wN n).map iN).map A.d).length ≤ SZ := h6
  have h7 : mkL false (iA (Cd.wN n)) (st ++ [.lst (iA P)]) = .ok (.d (bL (Cd.wN n))) (st ++ [.lst (iA P)]) := by
    clear ho
    walk_at "ev*"
  clear ho h8 h6
  generalize iA (Cd.wN n) = Z at *
  walk_at "ev*"
theorem x_llisted {a : A} {ws : List (List Nat)} {st : Store} {ok : Store → Prop} (h1 : gLen [a] st = .ok (.d (.int (ws.length : Nat))) st) (h2 : anyR (.ok a st) = .ok ⟨(lD ws).map A.d, ok⟩ st) (h3 : ok st) (hk : ws.length < Cd.N70) (hl : (Cd.wL ws).length ≤ SZ) : m__law_listed [a] st = .ok (.d (bL (Cd.wL ws))) st := by
  have e1 := x_lnum hk st
  unfold Cd.wL at hl ⊢
  rw [List.length_append] at hl
  unfold m__law_listed b__law_listed
  walk_at "ev*"
  generalize ho : forA _ _ _ _ _ _ = o
  obtain ⟨σ1, st1, rfl, y, rfl, rfl⟩ := forL_nx ho (fun i σ s => ∃ y : Option A, σ = [some a, some (.d (bL (Cd.wN ws.length ++ (ws.take i).flatten))), y] ∧ s = st)
    ⟨_, by rw [List.take_zero, List.flatten_nil, List.append_nil], rfl⟩ (fun _ _ s _ ⟨_, _, e⟩ => by rw [e]; exact h3) (fun i y σ s hy ⟨y0, e, e2⟩ => by
      subst e e2
      obtain ⟨w, hw, rfl⟩ := dA_get hy
      have hf := flat_len hw
      have a1 := gAdd_bL (Cd.wN ws.length ++ (ws.take i).flatten) w s (by rw [List.length_append]; omega)
      have e3 : (Cd.wN ws.length ++ (ws.take i).flatten) ++ w = Cd.wN ws.length ++ (ws.take (i + 1)).flatten := by
        rw [List.append_assoc, List.take_add_one, hw, List.flatten_append]
        show _ ++ (_ ++ w) = _ ++ (_ ++ (w ++ []))
        rw [List.append_nil]
      rw [e3] at a1
      refine nxt_of (σ := [some a, some (.d (bL (Cd.wN ws.length ++ (ws.take (i + 1)).flatten))), some (.d (bL w))]) (st := s) ?_ ⟨_, rfl, rfl⟩
      clear ho hy h1 hl hf h2 e1 e3
      generalize Cd.wN ws.length ++ (ws.take i).flatten = Z at *
      generalize Cd.wN ws.length ++ (ws.take (i + 1)).flatten = Z' at *
      walk_at "ev*")
  rw [List.length_map, List.length_map, List.take_of_length_le (Nat.le_refl _)] at ho ⊢
  clear ho e1 h2 h1
  walk_at "ev*"
theorem x_llistedD {ws : List (List Nat)} (hk : ws.length < Cd.N70) (hl : (Cd.wL ws).length ≤ SZ) (st : Store) : m__law_listed [.d (.list (lD ws))] st = .ok (.d (bL (Cd.wL ws))) st :=
  x_llisted (ok := fun s => viewS s (.d (.list (lD ws))) = some ((lD ws).map A.d)) (by rw [gLen_l, List.length_map]) rfl rfl hk hl
theorem x_llistedC {ws : List (List Nat)} {st : Store} {q : Nat} (hq : st[q]? = some (.lst ((lD ws).map A.d))) (hk : ws.length < Cd.N70) (hl : (Cd.wL ws).length ≤ SZ) : m__law_listed [.c q] st = .ok (.d (bL (Cd.wL ws))) st :=
  x_llisted (ok := fun s => viewS s (.c q) = some ((lD ws).map A.d)) (by rw [gLen_c, hq]; show Res.ok (A.d (.int (((lD ws).map A.d).length : Nat))) st = _; rw [List.length_map, List.length_map]) (by rw [anyR_c, viewS_c, hq]) (by rw [viewS_c, hq]) hk hl
def strR (r : Res A) : Res Walk := r.bind fun x st1 => match x with
  | .d (.str s) => .ok ⟨((chS s).map D.str).map A.d, fun _ => True⟩ st1
  | _ => .no
theorem iStrM_ap (f : ME) (σ : Slots) (st : Store) : iStrM f σ st = strR (f σ st) := rfl
theorem strR_s (s : Str) (st : Store) : strR (.ok (.d (.str s)) st) = .ok ⟨((chS s).map D.str).map A.d, fun _ => True⟩ st := rfl
theorem chS_codes (s : Str) : (chS s).map D.str = (Cd.codes s).map fun c => D.str ⟨#[c]⟩ := by
  unfold chS Cd.codes
  rw [List.map_map]
  rfl
def isDig (c : Nat) : Bool := decide (48 ≤ c) && decide (c ≤ 57)
def isSml (c : Nat) : Bool := decide (97 ≤ c) && decide (c ≤ 122)
theorem al_dig (st : Store) {c : Nat} (h : c ∈ Cd.alpha) : gIn false (.d (.str ⟨#[c]⟩)) (.d (.str "0123456789")) st = .ok (.d (.bl (isDig c))) st := by
  have : ∀ c ∈ Cd.alpha, (!(Builtin.Str.occurrences ("0123456789" : Str) ⟨#[c]⟩ 0 ("0123456789" : Str).length 1).isEmpty) = isDig c := by decide +kernel
  rw [← this c h]
  rfl
theorem al_sml (st : Store) {c : Nat} (h : c ∈ Cd.alpha) : gIn false (.d (.str ⟨#[c]⟩)) (.d (.str "abcdefghijklmnopqrstuvwxyz")) st = .ok (.d (.bl (isSml c))) st := by
  have : ∀ c ∈ Cd.alpha, (!(Builtin.Str.occurrences ("abcdefghijklmnopqrstuvwxyz" : Str) ⟨#[c]⟩ 0 ("abcdefghijklmnopqrstuvwxyz" : Str).length 1).isEmpty) = isSml c := by decide +kernel
  rw [← this c h]
  rfl
theorem gSIndex_at {a b : Str} {i : Nat} (st : Store) (h : (Builtin.Str.occurrences a b 0 a.length 1)[0]? = some i) : gSIndex (.d (.str a)) [.d (.str b)] st = .ok (.d (.int (i : Nat))) st := by
  show (match Builtin.Str.occurrences a b 0 a.length 1 with | i :: _ => Res.ok (A.d (.int (i : Nat))) st | [] => .no) = _
  cases ho : Builtin.Str.occurrences a b 0 a.length 1 with
  | nil => rw [ho] at h; cases h
  | cons => rw [ho] at h; cases h; rfl
theorem al_di (st : Store) {c : Nat} (h : c ∈ Cd.alpha) (hd : isDig c = true) : gSIndex (.d (.str "0123456789")) [.d (.str ⟨#[c]⟩)] st = .ok (.d (.int ((c - 48 : Nat) : Int))) st := by
  have : ∀ c ∈ Cd.alpha, isDig c = true → (Builtin.Str.occurrences ("0123456789" : Str) ⟨#[c]⟩ 0 ("0123456789" : Str).length 1)[0]? = some (c - 48) := by decide +kernel
  exact gSIndex_at st (this c h hd)
theorem al_si (st : Store) {c : Nat} (h : c ∈ Cd.alpha) (hd : isSml c = true) : gSIndex (.d (.str "abcdefghijklmnopqrstuvwxyz")) [.d (.str ⟨#[c]⟩)] st = .ok (.d (.int ((c - 97 : Nat) : Int))) st := by
  have : ∀ c ∈ Cd.alpha, isSml c = true → (Builtin.Str.occurrences ("abcdefghijklmnopqrstuvwxyz" : Str) ⟨#[c]⟩ 0 ("abcdefghijklmnopqrstuvwxyz" : Str).length 1)[0]? = some (c - 97) := by decide +kernel
  exact gSIndex_at st (this c h hd)
theorem al_in {c : Nat} (h : c ∈ Cd.alpha) : (isDig c = true ∧ 48 ≤ c) ∨ (isDig c = false ∧ isSml c = true ∧ 97 ≤ c) ∨ (isDig c = false ∧ isSml c = false ∧ c = 95) := by
  have : ∀ c ∈ Cd.alpha, (isDig c = true ∧ 48 ≤ c) ∨ (isDig c = false ∧ isSml c = true ∧ 97 ≤ c) ∨ (isDig c = false ∧ isSml c = false ∧ c = 95) := by decide +kernel
  exact this c h
theorem al_lt {c : Nat} (h : c ∈ Cd.alpha) : c < 128 := by
  have : ∀ c ∈ Cd.alpha, c < 128 := by decide +kernel
  exact this c h
theorem lD_app (a b : List (List Nat)) : lD (a ++ b) = lD a ++ lD b := List.map_append ..
theorem x_lname {s : Str} (h : NmO s) (st : Store) : m__law_name_code [.d (.str s)] st = .ok (.d (bL (Cd.wName s))) st := by
  obtain ⟨h1, h2, h3⟩ := h
  have hl := wName_len h1
  have i1 := fun σ st => iStrM_ap (mVar 0) σ st
  have i2 := strR_s s
  unfold m__law_name_code b__law_name_code
  walk_at "ev*"
  generalize ho : forA _ _ _ _ _ _ = o
  rw [chS_codes] at ho
  obtain ⟨σ1, st1, rfl, y4, y5, rfl, rfl⟩ := forL_nx ho (fun i σ t => ∃ (y4 y5 : Option A), σ = [some (.d (.str s)), some (.d (.str "0123456789")), some (.d (.str "abcdefghijklmnopqrstuvwxyz")), some (.c st.length), y4, y5] ∧ t = st ++ [.lst ((lD (((Cd.codes s).take i).map Cd.wN)).map A.d)])
    ⟨_, _, rfl, rfl⟩ (fun _ _ _ _ _ => trivial) (fun i y σ t hy ⟨y4, y5, e1, e2⟩ => by
      subst e1 e2
      obtain ⟨c, hc, rfl⟩ := dA_get hy
      have hal := h3 c (List.mem_of_getElem? hc)
      have hi : i < s.length := by rw [← codes_len]; exact (List.getElem?_eq_some_iff.mp hc).1
      have hb : ((lD (((Cd.codes s).take i).map Cd.wN)).map A.d).length < SZ := by
        rw [List.length_map, List.length_map, List.length_map, List.length_take]
        unfold SZ
        omega
      have hx : (lD (((Cd.codes s).take i).map Cd.wN)).map A.d ++ [A.d (.list [.int (c : Int)])] = (lD (((Cd.codes s).take (i + 1)).map Cd.wN)).map A.d := by
        rw [List.take_add_one, hc, List.map_append, lD_app, List.map_append]
        show _ ++ _ = _ ++ [A.d (.list ((Cd.wN c).map iN))]
        rw [Cd.wN_lo (al_lt hal)]
        rfl
      refine nxt_of (σ := [some (.d (.str s)), some (.d (.str "0123456789")), some (.d (.str "abcdefghijklmnopqrstuvwxyz")), some (.c st.length), some (.d (.str ⟨#[c]⟩)), some (.d (.int (c : Int)))]) (st := st ++ [.lst ((lD (((Cd.codes s).take (i + 1)).map Cd.wN)).map A.d)]) ?_ ⟨_, _, rfl, rfl⟩
      have q1 := fun L => al_dig (st ++ L) hal
      have q2 := fun L => al_sml (st ++ L) hal
      generalize (lD (((Cd.codes s).take i).map Cd.wN)).map A.d = Z at *
      generalize (lD (((Cd.codes s).take (i + 1)).map Cd.wN)).map A.d = Z2 at *
      clear ho hy i1 i2
      rcases al_in hal with ⟨d, g⟩ | ⟨d, d2, g⟩ | ⟨d, d2, g⟩
      · have q3 := fun L => al_di (st ++ L) hal d
        have q4 : 48 + ((c - 48 : Nat) : Int) = (c : Int) := by omega
        clear g hal
        walk_at "ev*"
      · have q3 := fun L => al_si (st ++ L) hal d2
        have q4 : 97 + ((c - 97 : Nat) : Int) = (c : Int) := by omega
        clear g hal
        walk_at "ev*"
      · subst g
        clear hal
        walk_at "ev*"
        exact congrArg (fun z => Out.nx _ (st ++ [Cell.lst z])) hx)
  have e1 := x_llistedC (ws := (Cd.codes s).map Cd.wN) (st := st ++ [.lst ((lD ((Cd.codes s).map Cd.wN)).map A.d)]) (q := st.length) (loc_get0 _ _) (by rw [List.length_map, codes_len]; exact Nat.lt_of_le_of_lt h1.1 (by decide)) (by
    have := h1.1
    show (Cd.wName s).length ≤ SZ
    unfold SZ; omega)
  rw [List.length_map, List.length_map, List.take_of_length_le (Nat.le_refl _)] at ho ⊢
  clear ho i1 i2
  generalize (lD ((Cd.codes s).map Cd.wN)).map A.d = Z at *
  walk_at "ev*"
  rfl
theorem x_lpath {p : Cd.Path} (h : PaO p) (st : Store) : m__law_path_code [.d (pD p)] st = .ok (.d (bL (Cd.wPath p))) st := by
  have hl := wPath_len h
  have h0 := h.1
  have h1 := x_llistedD (ws := p.map Cd.wName) (by rw [List.length_map]; exact Nat.lt_of_le_of_lt h.1 (by decide)) (show (Cd.wPath p).length ≤ SZ by unfold SZ; omega) st
  unfold m__law_path_code b__law_path_code
  walk_at "ev"
  rw [mLc_datJ (f := D.str) (fun s => bL (Cd.wName s)) (xs := p) (st1 := st) (ok := fun _ => True) (by
    rw [iAny_ap]
    rfl) (fun L => trivial) (by unfold SZ; omega) (fun s hs L => ⟨_, [], rfl, by
      rw [List.append_nil]
      exact x_lname (h.2 s hs) _⟩)]
  have e : p.map (fun s => bL (Cd.wName s)) = lD (p.map Cd.wName) := by unfold lD; rw [List.map_map]; rfl
  rw [e]
  walk_at "ev*"
  rfl
end
end Lw
namespace Lw
open PySem PySem.Spec PyProof.Rows L2 Am
section
variable {P : Program} {w : World} {K : PySem.W.Frag} {mg : Str → Option Value} {base : Heap}
theorem len_ok {α : Type} {f : α → D} {xs : List α} (h : xs.length ≤ 1000000) : ((xs.map f).map A.d).length ≤ SZ := by rw [List.length_map, List.length_map]; unfold SZ; omega
theorem list_thD (ts : Cd.Things) (st : Store) (h : ts.length ≤ 1000) : gListA false [.d (thD ts)] st = .ok (.d (.list ((ts.map (·.1)).map pD))) st := by
  rw [gListA_DT (g := .d (thD ts)) rfl (thD_view ts st)]
  have e : ((ts.map fun q => (kP q.1, A.d (tD q.2))).map fun p => D.tup (p.1.map kD)) = (ts.map (·.1)).map pD := by
    rw [List.map_map, List.map_map]
    refine List.map_congr_left fun q _ => ?_
    show D.tup ((kP q.1).map kD) = D.tup (q.1.map .str)
    rw [List.map_map]
    rfl
  rw [e]
  have := len_ok (f := pD) (xs := ts.map (·.1)) (by rw [List.length_map]; omega)
  walk_at "ev"
theorem sort_pD (ps : List Cd.Path) (st : Store) (h : ps.length ≤ 1000) : gSortA false [.d (.list (ps.map pD))] st = .ok (.d (.list ((psort ps).map pD))) st := by
  rw [gSortA_P (ps := ps) rfl]
  have := len_ok (f := pD) (xs := psort ps) (by rw [(psort_perm _).length_eq]; omega)
  walk_at "ev"
theorem list_snV (ss : Snaps) {g : A} {st : Store} (hg : viewK st g = some (ss.map fun q => ((.inr q.1 : Key), A.d (thD q.2)))) (h : ss.length ≤ 10) : gListA false [g] st = .ok (.d (.list ((ss.map (·.1)).map D.str))) st := by
  rw [gListA_K hg]
  have e : ((ss.map fun q => ((.inr q.1 : Key), A.d (thD q.2))).map fun p => kD p.1) = (ss.map (·.1)).map D.str := by
    rw [List.map_map, List.map_map]
    rfl
  rw [e]
  have := len_ok (f := D.str) (xs := ss.map (·.1)) (by rw [List.length_map]; omega)
  walk_at "ev"
theorem sort_sD (ss : List Str) (st : Store) (h : ss.length ≤ 10) : gSortA false [.d (.list (ss.map D.str))] st = .ok (.d (.list ((ssort ss).map D.str))) st := by
  rw [gSortA_S (ss := ss) rfl (by omega)]
  have := len_ok (f := D.str) (xs := ssort ss) (by rw [(ssort_perm _).length_eq]; omega)
  walk_at "ev"
theorem x_litems {ts : Cd.Things} (h : ts.length ≤ 1000) (st : Store) : m__law_item_list [.d (thD ts)] st = .ok (.d (itD ts)) st := by
  have hs := list_thD ts st h
  have hs2 := sort_pD (ts.map (·.1)) st (by rw [List.length_map]; omega)
  unfold m__law_item_list b__law_item_list
  walk_at "ev"
  rw [mLc_datJ (f := pD) (fun p => .tup [pD p, tD (gT ts p)]) (xs := ksT ts) (st1 := st) (ok := fun s => viewS s (.d (.list ((ksT ts).map pD))) = some (((ksT ts).map pD).map A.d)) (by
    rw [iAny_ap]
    walk_at "ev*") (fun L => rfl) (by rw [ks_len]; unfold SZ; omega) (fun p hp L => by
      refine ⟨[some (.d (thD ts)), some (.d (pD p))], [], rfl, ?_⟩
      have e1 := ix_thD hp (st ++ L)
      clear hs hs2
      walk_at "ev*")]
  have s1 := len_ok (f := fun p => D.tup [pD p, tD (gT ts p)]) (xs := ksT ts) (by rw [ks_len]; omega)
  walk_at "ev*"
  rfl
/-- how the law writes a file or folder -/
theorem x_lthings {ts : Cd.Things} (h : TsO ts) (st : Store) : m__law_things_code [.d (thD ts)] st = .ok (.d (bL (wThings ts))) st := by
  have hl := wThings_len h
  have h0 := h.1
  have hs := fun L => list_thD ts (st ++ L) (by omega)
  have hs2 := fun L => sort_pD (ts.map (·.1)) (st ++ L) (by rw [List.length_map]; omega)
  unfold m__law_things_code b__law_things_code
  walk_at "ev*"
  generalize ho : forA _ _ _ _ _ _ = o
  obtain ⟨σ1, st1, rfl, y2, y3, y4, y5, rfl, rfl⟩ := forL_nx ho (fun i σ t => ∃ (y2 y3 y4 y5 : Option A), σ = [some (.d (thD ts)), some (.c st.length), y2, y3, y4, y5, none] ∧ t = st ++ [.lst ((lD (((ksT ts).take i).map fun p => Cd.wPath p ++ Cd.wThing (gT ts p))).map A.d)])
    ⟨_, _, _, _, rfl, rfl⟩ (fun _ _ _ _ _ => by first | trivial | rfl) (fun i y σ t hy ⟨y2, y3, y4, y5, e1, e2⟩ => by
      subst e1 e2
      obtain ⟨p, hp, rfl⟩ := dA_get hy
      have hm := List.mem_of_getElem? hp
      have hq : PaO p ∧ ThO (gT ts p) := h.2 _ (ks_mem hm).2
      have hb : ((lD (((ksT ts).take i).map fun p => Cd.wPath p ++ Cd.wThing (gT ts p))).map A.d).length < SZ := by
        have := ks_len ts
        rw [List.length_map, List.length_map, List.length_map, List.length_take]
        unfold SZ
        omega
      have hx : (lD (((ksT ts).take i).map fun p => Cd.wPath p ++ Cd.wThing (gT ts p))).map A.d ++ [A.d (bL (Cd.wPath p ++ Cd.wThing (gT ts p)))] = (lD (((ksT ts).take (i + 1)).map fun p => Cd.wPath p ++ Cd.wThing (gT ts p))).map A.d := by
        rw [List.take_add_one, hp, List.map_append, lD_app, List.map_append]
        rfl
      have q1 := fun L => x_lpath hq.1 (st ++ L)
      have q2 := fun L => ix_thD hm (st ++ L)
      have l1 := paO_len hq.1
      have l2 := wThing_len hq.2
      clear ho hy hs hs2
      generalize (lD (((ksT ts).take i).map fun p => Cd.wPath p ++ Cd.wThing (gT ts p))).map A.d = Z at *
      generalize (lD (((ksT ts).take (i + 1)).map fun p => Cd.wPath p ++ Cd.wThing (gT ts p))).map A.d = Z2 at *
      generalize gT ts p = t at *
      cases t with
      | none =>
        have a1 : ∀ L, gAdd false (.d (bL (Cd.wPath p))) (.d (.list [.int 0])) (st ++ L) = .ok (.d (bL (Cd.wPath p ++ Cd.wThing none))) (st ++ L) := fun L => gAdd_bL (Cd.wPath p) [0] (st ++ L) (by rw [List.length_singleton]; unfold SZ; omega)
        have g := fun L => gIs_n (st := st ++ L) false
        replace q2 : ∀ L, gIx (.d (thD ts)) (.d (pD p)) (st ++ L) = .ok (.d .non) (st ++ L) := q2
        generalize Cd.wPath p ++ Cd.wThing none = B at *
        refine nxt_of (σ := [some (.d (thD ts)), some (.c st.length), some (.d (pD p)), some (.d (bL (Cd.wPath p))), y4, y5, none]) (st := st ++ [.lst Z2]) ?_ ⟨_, _, _, _, rfl, rfl⟩
        clear l1 l2 hq hm hp
        walk_at "ev*"
      | some v =>
        obtain ⟨l, ns⟩ := v
        obtain ⟨t1, t2, t3⟩ := hq.2
        have g := fun L => gIs_t (st := st ++ L) false [iN l, .tup (ns.map iN)]
        replace q2 : ∀ L, gIx (.d (thD ts)) (.d (pD p)) (st ++ L) = .ok (.d (.tup [iN l, .tup (ns.map iN)])) (st ++ L) := q2
        replace l2 : (1 :: (Cd.wN l ++ Cd.wL (ns.map Cd.wN))).length ≤ 20000 := l2
        rw [List.length_cons, List.length_append] at l2
        have a1 : ∀ L, gAdd false (.d (bL (Cd.wPath p))) (.d (.list [.int 1])) (st ++ L) = .ok (.d (bL (Cd.wPath p ++ [1]))) (st ++ L) := fun L => gAdd_bL (Cd.wPath p) [1] (st ++ L) (by rw [List.length_singleton]; unfold SZ; omega)
        have a2 : ∀ L, gAdd false (.d (bL (Cd.wPath p ++ [1]))) (.d (bL (Cd.wN l))) (st ++ L) = .ok (.d (bL (Cd.wPath p ++ [1] ++ Cd.wN l))) (st ++ L) := fun L => gAdd_bL (Cd.wPath p ++ [1]) _ (st ++ L) (by rw [List.length_append, List.length_singleton]; unfold SZ; omega)
        have a3 : ∀ L, gAdd false (.d (bL (Cd.wPath p ++ [1] ++ Cd.wN l))) (.d (bL (Cd.wL (ns.map Cd.wN)))) (st ++ L) = .ok (.d (bL (Cd.wPath p ++ Cd.wThing (some (l, ns))))) (st ++ L) := fun L => by
          rw [gAdd_bL (Cd.wPath p ++ [1] ++ Cd.wN l) _ (st ++ L) (by rw [List.length_append, List.length_append, List.length_singleton]; unfold SZ; omega), List.append_assoc, List.append_assoc]
          rfl
        have b1 := fun L => x_lnum t1 (st ++ L)
        have b2 := fun L => x_llistedD (ws := ns.map Cd.wN) (by rw [List.length_map]; exact Nat.lt_of_le_of_lt t2 (by decide)) (by unfold SZ; omega) (st ++ L)
        have b3 : ∀ y3, mLc false [6] (pt1 6) (iAnyM (mVar 5)) mYes (mCall m__law_number (mCons (mVar 6) mNil)) [some (.d (thD ts)), some (.c st.length), some (.d (pD p)), some y3, some (.d (iN l)), some (.d (.tup (ns.map iN))), none] (st ++ [.lst Z]) = .ok (.d (.list (lD (ns.map Cd.wN)))) (st ++ [.lst Z]) := fun y3 => by
          rw [mLc_datJ (f := iN) (fun n => bL (Cd.wN n)) (xs := ns) (st1 := st ++ [.lst Z]) (ok := fun _ => True) (by
            rw [iAny_ap]
            rfl) (fun L => trivial) (by unfold SZ; omega) (fun n hn L => ⟨_, [], rfl, by
              rw [List.append_nil]
              exact x_lnum (t3 n hn) _⟩)]
          unfold lD
          rw [List.map_map]
          rfl
        generalize Cd.wPath p ++ Cd.wThing (some (l, ns)) = B at *
        generalize lD (ns.map Cd.wN) = Z5 at *
        generalize Cd.wL (ns.map Cd.wN) = B5 at *
        generalize Cd.wPath p ++ [1] ++ Cd.wN l = B4 at *
        generalize Cd.wPath p ++ [1] = B3 at *
        generalize Cd.wPath p = B2 at *
        refine nxt_of (σ := [some (.d (thD ts)), some (.c st.length), some (.d (pD p)), some (.d (bL B2)), some (.d (iN l)), some (.d (.tup (ns.map iN))), none]) (st := st ++ [.lst Z2]) ?_ ⟨_, _, _, _, rfl, rfl⟩
        generalize ns.map iN = Z6 at *
        clear l1 l2 hq hm hp t1 t2 t3
        walk_at "ev*")
  have e1 := x_llistedC (ws := (ksT ts).map fun p => Cd.wPath p ++ Cd.wThing (gT ts p)) (st := st ++ [.lst ((lD ((ksT ts).map fun p => Cd.wPath p ++ Cd.wThing (gT ts p))).map A.d)]) (q := st.length) (loc_get0 _ _) (by rw [List.length_map, ks_len]; exact Nat.lt_of_le_of_lt h0 (by decide)) (by
    show (wThings ts).length ≤ SZ
    unfold SZ; omega)
  rw [List.length_map, List.length_map, List.take_of_length_le (Nat.le_refl _)] at ho ⊢
  clear ho hs hs2
  generalize (lD ((ksT ts).map fun p => Cd.wPath p ++ Cd.wThing (gT ts p))).map A.d = Z at *
  walk_at "ev*"
  rfl
theorem x_limage {c : Nat} {ts : Cd.Things} {ss : Snaps} (hc : c < Cd.N70) (h1 : TsO ts) (h2 : SnO ss) {g : A} {st : Store} (hg : ∀ L, viewK (st ++ L) g = some (ss.map fun q => ((.inr q.1 : Key), A.d (thD q.2)))) : m__law_image_code [.d (iN c), .d (thD ts), g] st = .ok (.d (bL (wImage c ts ss))) st := by
  have hg0 : viewK st g = some (ss.map fun q => ((.inr q.1 : Key), A.d (thD q.2))) := by simpa using hg []
  have l1 := Cd.wN_10 hc
  have l2 := wThings_len h1
  have l3 := wSnaps_len h2
  have h0 := h2.1
  have e1 := x_lnum hc st
  have e2 := x_lthings h1 st
  have e3 : m__law_listed [.d (.list (lD ((ksS ss).map (wSnap ss))))] st = .ok (.d (bL (wSnaps ss))) st := x_llistedD (ws := (ksS ss).map (wSnap ss)) (by rw [List.length_map, sn_len]; exact Nat.lt_of_le_of_lt h0 (by decide)) (show (wSnaps ss).length ≤ SZ by unfold SZ; omega) st
  have a1 := gAdd_bL (Cd.wN c) (wThings ts) st (by unfold SZ; omega)
  have a2 : gAdd false (.d (bL (Cd.wN c ++ wThings ts))) (.d (bL (wSnaps ss))) st = .ok (.d (bL (wImage c ts ss))) st := gAdd_bL (Cd.wN c ++ wThings ts) (wSnaps ss) st (by rw [List.length_append]; unfold SZ; omega)
  have hs := list_snV ss hg0 (by omega)
  have hs2 := sort_sD (ss.map (·.1)) st (by rw [List.length_map]; omega)
  unfold m__law_image_code b__law_image_code
  walk_at "ev"
  rw [mLc_datJ (f := D.str) (fun n => bL (wSnap ss n)) (xs := ksS ss) (st1 := st) (ok := fun s => viewS s (.d (.list ((ksS ss).map D.str))) = some (((ksS ss).map D.str).map A.d)) (by
    rw [iAny_ap]
    clear e1 e2 e3 a1 a2 hg0
    walk_at "ev*") (fun L => rfl) (by rw [sn_len]; unfold SZ; omega) (fun n hn L => by
      have hq : NmO n ∧ TsO (gS ss n) := h2.2 _ (sn_mem hn).2
      refine ⟨[some (.d (iN c)), some (.d (thD ts)), some g, none, some (.d (.str n))], [], rfl, ?_⟩
      obtain ⟨q1, q2⟩ := wSnap_len h2 hn
      have e4 := x_lname hq.1 (st ++ L)
      have e5 := x_lthings hq.2 (st ++ L)
      have e6 := ix_snV hn (hg L)
      have e7 : gAdd false (.d (bL (Cd.wName n))) (.d (bL (wThings (gS ss n)))) (st ++ L) = .ok (.d (bL (wSnap ss n))) (st ++ L) := gAdd_bL _ _ _ (by unfold SZ; omega)
      clear e1 e2 e3 a1 a2 hs hs2 hg hg0
      walk_at "ev*")]
  have e : (ksS ss).map (fun n => bL (wSnap ss n)) = lD ((ksS ss).map (wSnap ss)) := by unfold lD; rw [List.map_map]; rfl
  rw [e]
  generalize lD ((ksS ss).map (wSnap ss)) = Z at *
  generalize wImage c ts ss = Z1 at *
  generalize Cd.wN c ++ wThings ts = Z2 at *
  clear hs hs2 hg hg0
  walk_at "ev*"
end
end Lw
namespace Lw
open PySem PySem.Spec PyProof.Rows L2 Am
section
variable {P : Program} {w : World} {K : PySem.W.Frag} {mg : Str → Option Value} {base : Heap}
abbrev wordsD : List D := [.str "folder", .str "file", .str "put", .str "trim", .str "move", .str "drop", .str "snap", .str "forget", .str "back"]
theorem x_lrec {r : Cd.Rec} (h : RcO r) (st : Store) : m__law_record_code [.d (rD r)] st = .ok (.d (bL (Cd.wRec r))) st := by
  unfold m__law_record_code b__law_record_code
  cases r with
  | folder p =>
    have l1 := paO_len h
    have e1 := x_lpath h st
    have a1 : gAdd false (.d (.list [.int ((0 : Nat) : Int)])) (.d (bL (Cd.wPath p))) st = .ok (.d (bL (Cd.wRec (.folder p)))) st := gAdd_bL [0] _ st (by rw [List.length_singleton]; unfold SZ; omega)
    generalize Cd.wRec (.folder p) = Z at *
    have wi := wx_folder st
    have d1 : decide ((5 : Int) < ((0 : Nat) : Int)) = false := rfl
    have w1 := wput_folder st
    have w2 := wtrim_folder st
    have w3 := wmove_folder st
    unfold rD
    clear h
    walk_at "ev*"
  | file p =>
    have l1 := paO_len h
    have e1 := x_lpath h st
    have a1 : gAdd false (.d (.list [.int ((1 : Nat) : Int)])) (.d (bL (Cd.wPath p))) st = .ok (.d (bL (Cd.wRec (.file p)))) st := gAdd_bL [1] _ st (by rw [List.length_singleton]; unfold SZ; omega)
    generalize Cd.wRec (.file p) = Z at *
    have wi := wx_file st
    have d1 : decide ((5 : Int) < ((1 : Nat) : Int)) = false := rfl
    have w1 := wput_file st
    have w2 := wtrim_file st
    have w3 := wmove_file st
    unfold rD
    clear h
    walk_at "ev*"
  | drop p =>
    have l1 := paO_len h
    have e1 := x_lpath h st
    have a1 : gAdd false (.d (.list [.int ((5 : Nat) : Int)])) (.d (bL (Cd.wPath p))) st = .ok (.d (bL (Cd.wRec (.drop p)))) st := gAdd_bL [5] _ st (by rw [List.length_singleton]; unfold SZ; omega)
    generalize Cd.wRec (.drop p) = Z at *
    have wi := wx_drop st
    have d1 : decide ((5 : Int) < ((5 : Nat) : Int)) = false := rfl
    have w1 := wput_drop st
    have w2 := wtrim_drop st
    have w3 := wmove_drop st
    unfold rD
    clear h
    walk_at "ev*"
  | snap n =>
    have l1 := nmO_len h
    have e1 := x_lname h st
    have a1 : gAdd false (.d (.list [.int ((6 : Nat) : Int)])) (.d (bL (Cd.wName n))) st = .ok (.d (bL (Cd.wRec (.snap n)))) st := gAdd_bL [6] _ st (by rw [List.length_singleton]; unfold SZ; omega)
    generalize Cd.wRec (.snap n) = Z at *
    have wi := wx_snap st
    have d1 : decide ((5 : Int) < ((6 : Nat) : Int)) = true := rfl
    unfold rD
    clear h
    walk_at "ev*"
  | forget n =>
    have l1 := nmO_len h
    have e1 := x_lname h st
    have a1 : gAdd false (.d (.list [.int ((7 : Nat) : Int)])) (.d (bL (Cd.wName n))) st = .ok (.d (bL (Cd.wRec (.forget n)))) st := gAdd_bL [7] _ st (by rw [List.length_singleton]; unfold SZ; omega)
    generalize Cd.wRec (.forget n) = Z at *
    have wi := wx_forget st
    have d1 : decide ((5 : Int) < ((7 : Nat) : Int)) = true := rfl
    unfold rD
    clear h
    walk_at "ev*"
  | back n =>
    have l1 := nmO_len h
    have e1 := x_lname h st
    have a1 : gAdd false (.d (.list [.int ((8 : Nat) : Int)])) (.d (bL (Cd.wName n))) st = .ok (.d (bL (Cd.wRec (.back n)))) st := gAdd_bL [8] _ st (by rw [List.length_singleton]; unfold SZ; omega)
    generalize Cd.wRec (.back n) = Z at *
    have wi := wx_back st
    have d1 : decide ((5 : Int) < ((8 : Nat) : Int)) = true := rfl
    unfold rD
    clear h
    walk_at "ev*"
  | move p q =>
    have l1 := paO_len h.1
    have l2 := paO_len h.2
    have e1 := x_lpath h.1 st
    have e2 := x_lpath h.2 st
    have a1 : gAdd false (.d (.list [.int ((4 : Nat) : Int)])) (.d (bL (Cd.wPath p))) st = .ok (.d (bL (4 :: Cd.wPath p))) st := gAdd_bL [4] _ st (by rw [List.length_singleton]; unfold SZ; omega)
    have a2 : gAdd false (.d (bL (4 :: Cd.wPath p))) (.d (bL (Cd.wPath q))) st = .ok (.d (bL (Cd.wRec (.move p q)))) st := gAdd_bL (4 :: Cd.wPath p) _ st (by rw [List.length_cons]; unfold SZ; omega)
    generalize Cd.wRec (.move p q) = Z at *
    generalize 4 :: Cd.wPath p = Z1 at *
    have wi := wx_move st
    have d1 : decide ((5 : Int) < ((4 : Nat) : Int)) = false := rfl
    have w1 := wput_move st
    have w2 := wtrim_move st
    have w3 := wmove_move st
    unfold rD
    clear h
    walk_at "ev*"
  | trim p l b =>
    have l1 := paO_len h.1
    have l2 := Cd.wN_10 h.2.1
    have l3 := Cd.wN_10 h.2.2
    have e1 := x_lpath h.1 st
    have e2 := x_lnum h.2.1 st
    have e3 := x_lnum h.2.2 st
    have a1 : gAdd false (.d (.list [.int ((3 : Nat) : Int)])) (.d (bL (Cd.wPath p))) st = .ok (.d (bL (3 :: Cd.wPath p))) st := gAdd_bL [3] _ st (by rw [List.length_singleton]; unfold SZ; omega)
    have a2 : gAdd false (.d (bL (3 :: Cd.wPath p))) (.d (bL (Cd.wN l))) st = .ok (.d (bL (3 :: Cd.wPath p ++ Cd.wN l))) st := gAdd_bL (3 :: Cd.wPath p) _ _ (by rw [List.length_cons]; unfold SZ; omega)
    have a3 : gAdd false (.d (bL (3 :: Cd.wPath p ++ Cd.wN l))) (.d (bL (Cd.wN b))) st = .ok (.d (bL (Cd.wRec (.trim p l b)))) st := by
      rw [gAdd_bL (3 :: Cd.wPath p ++ Cd.wN l) _ _ (by rw [List.length_append, List.length_cons]; unfold SZ; omega), List.append_assoc]
      rfl
    generalize Cd.wRec (.trim p l b) = Z at *
    generalize 3 :: Cd.wPath p ++ Cd.wN l = Z2 at *
    generalize 3 :: Cd.wPath p = Z1 at *
    have wi := wx_trim st
    have d1 : decide ((5 : Int) < ((3 : Nat) : Int)) = false := rfl
    have w1 := wput_trim st
    have w2 := wtrim_trim st
    unfold rD
    clear h
    walk_at "ev*"
  | put p l ts =>
    obtain ⟨h1, h2, h3, h4⟩ := h
    have l1 := paO_len h1
    have l2 := Cd.wN_10 h2
    have l3 := wPairs_len h4 h3
    have e1 := x_lpath h1 st
    have e2 := x_lnum h2 st
    have e3 := x_llistedD (ws := ts.map Cd.wPair) (by rw [List.length_map]; exact Nat.lt_of_le_of_lt h3 (by decide)) (by unfold SZ; omega) st
    have a1 : gAdd false (.d (.list [.int ((2 : Nat) : Int)])) (.d (bL (Cd.wPath p))) st = .ok (.d (bL (2 :: Cd.wPath p))) st := gAdd_bL [2] _ st (by rw [List.length_singleton]; unfold SZ; omega)
    have a2 : gAdd false (.d (bL (2 :: Cd.wPath p))) (.d (bL (Cd.wN l))) st = .ok (.d (bL (2 :: Cd.wPath p ++ Cd.wN l))) st := gAdd_bL (2 :: Cd.wPath p) _ _ (by rw [List.length_cons]; unfold SZ; omega)
    have a3 : gAdd false (.d (bL (2 :: Cd.wPath p ++ Cd.wN l))) (.d (bL (Cd.wL (ts.map Cd.wPair)))) st = .ok (.d (bL (Cd.wRec (.put p l ts)))) st := by
      rw [gAdd_bL (2 :: Cd.wPath p ++ Cd.wN l) _ _ (by rw [List.length_append, List.length_cons]; unfold SZ; omega), List.append_assoc]
      rfl
    have hc : mLc false [4, 5] (pt2 4 5) (iAnyM (mBin gIx (mVar 0) (mC (.int 3)))) mYes (mBin (gAdd false) (mCall m__law_number (mCons (mVar 4) mNil)) (mCall m__law_number (mCons (mVar 5) mNil))) [some (.d (rD (.put p l ts))), some (.d (.list wordsD)), some (.d (bL (2 :: Cd.wPath p))), none, none, none] st = .ok (.d (.list (lD (ts.map Cd.wPair)))) st := by
      rw [mLc_datJ (f := fun q : Nat × Nat => .tup [iN q.1, iN q.2]) (fun q => bL (Cd.wPair q)) (xs := ts) (st1 := st) (ok := fun _ => True) (by
        rw [iAny_ap]
        unfold rD
        clear e1 e2 e3 a1 a2 a3
        walk_at "ev") (fun L => trivial) (by unfold SZ; omega) (fun q hq L => by
          obtain ⟨i, j⟩ := q
          have hq' : i < Cd.N70 ∧ j < Cd.N70 := h4 _ hq
          refine ⟨[some (.d (rD (.put p l ts))), some (.d (.list wordsD)), some (.d (bL (2 :: Cd.wPath p))), none, some (.d (iN i)), some (.d (iN j))], [], rfl, ?_⟩
          have n1 := x_lnum hq'.1 (st ++ L)
          have n2 := x_lnum hq'.2 (st ++ L)
          have l1 := Cd.wN_10 hq'.1
          have l2 := Cd.wN_10 hq'.2
          have a1 : gAdd false (.d (bL (Cd.wN i))) (.d (bL (Cd.wN j))) (st ++ L) = .ok (.d (bL (Cd.wPair (i, j)))) (st ++ L) := gAdd_bL _ _ _ (by unfold SZ; omega)
          rw [List.append_nil]
          generalize Cd.wPair (i, j) = Z at *
          generalize st ++ L = S0 at *
          generalize rD (.put p l ts) = R at *
          clear e1 e2 e3 a2 a3 l1 l2 hq' hq
          walk_at "ev*")]
      unfold lD
      rw [List.map_map]
      rfl
    generalize Cd.wRec (.put p l ts) = Z at *
    generalize 2 :: Cd.wPath p ++ Cd.wN l = Z2 at *
    generalize 2 :: Cd.wPath p = Z1 at *
    have wi := wx_put st
    have d1 : decide ((5 : Int) < ((2 : Nat) : Int)) = false := rfl
    have w1 := wput_put st
    have i0 : gIx (.d (rD (.put p l ts))) (.d (.int 0)) st = .ok (.d (.str "put")) st := rfl
    have i1 : gIx (.d (rD (.put p l ts))) (.d (.int 1)) st = .ok (.d (pD p)) st := rfl
    have i2 : gIx (.d (rD (.put p l ts))) (.d (.int 2)) st = .ok (.d (iN l)) st := rfl
    generalize rD (.put p l ts) = R at *
    generalize Cd.wL (ts.map Cd.wPair) = Z3 at *
    generalize lD (ts.map Cd.wPair) = Z4 at *
    clear h1 h2 h3 h4 l1 l2 l3
    walk_at "ev*"
end
end Lw
namespace Lw
open PySem PySem.Spec PyProof.Rows L2 Am
section
variable {P : Program} {w : World} {K : PySem.W.Frag} {mg : Str → Option Value} {base : Heap}
abbrev rdC (xs : List Nat) (n : Nat) : Cell := .ins "Reader" (F_Reader (.d (bL xs)) (.d (.int (n : Nat))))
theorem forA_rt {g : MG} {b : MS} {ok : Store → Prop} {x : A} {r : List A} {σ : Slots} {st st1 : Store} {a : A} (h : turn g b x σ st = .rt a st1) (hok : ok st) : forA g b ok (x :: r) σ st = .rt a st1 := by
  unfold turn at h
  rw [forA, eq_true hok, needO_true]
  split at h
  · rename_i σ1 st1 e
    simp only [e, h]
  · cases h
theorem forA_go {g : MG} {b : MS} {ok : Store → Prop} {x : A} {r : List A} {σ σ1 : Slots} {st st1 : Store} (h : turn g b x σ st = .nx σ1 st1) (hok : ok st) : forA g b ok (x :: r) σ st = forA g b ok r σ1 st1 := by
  unfold turn at h
  rw [forA, eq_true hok, needO_true]
  split at h
  · rename_i σ1 st1 e
    simp only [e, h]
  · cases h
theorem rangeA_cons (lo : Int) (n : Nat) : rangeA lo (n + 1) 1 = .d (.int lo) :: rangeA (lo + 1) n 1 := by
  unfold rangeA
  rw [List.range_succ_eq_map, List.map_cons, List.map_map]
  congr 1
  · congr 2
    show lo + ((0 : Nat) : Int) * 1 = lo
    omega
  · refine List.map_congr_left fun i _ => ?_
    show A.d (.int (lo + ((i + 1 : Nat) : Int) * 1)) = A.d (.int (lo + 1 + (i : Int) * 1))
    congr 2
    omega
section
variable {r n : Nat} {st : Store} {xs : List Nat}
theorem rd_get (hr : r < st.length) (n : Nat) : (st.set r (rdC xs n))[r]? = some (rdC xs n) := List.getElem?_set_self hr
theorem drop_hd {b : Nat} {rest : List Nat} (h : xs.drop n = b :: rest) : xs[n]? = some b ∧ xs.drop (n + 1) = rest := by
  constructor
  · have := List.head?_drop (l := xs) (i := n)
    rw [h] at this
    exact this.symm
  · have : xs.drop (n + 1) = (xs.drop n).drop 1 := by rw [List.drop_drop]
    rw [this, h]
    rfl
theorem drop_app {w rest : List Nat} (h : xs.drop n = w ++ rest) : xs.drop (n + w.length) = rest := by
  have : xs.drop (n + w.length) = (xs.drop n).drop w.length := by rw [List.drop_drop]
  rw [this, h, List.drop_left]
theorem x_read_byte (hr : r < st.length) {b : Nat} (hb : xs[n]? = some b) : m_Reader_read_byte [.c r] (st.set r (rdC xs n)) = .ok (.d (.int (b : Nat))) (st.set r (rdC xs (n + 1))) := by
  have g0 := fun n => rd_get (xs := xs) hr n
  have hl : n < xs.length := (List.getElem?_eq_some_iff.mp hb).1
  have h1 : decide ((xs.length : Int) ≤ (n : Int)) = false := decide_eq_false (by omega)
  have h2 : (n : Int) + 1 - 1 = (n : Int) := by omega
  have h3 : (n : Int) + 1 = ((n + 1 : Nat) : Int) := by omega
  have h4 : atI ((xs.map iN).map A.d) (n : Int) = some (.d (.int (b : Nat))) := atI_nat (by rw [List.getElem?_map, List.getElem?_map, hb]; rfl)
  have h5 : ((n + 1 : Nat) : Int) - 1 = (n : Int) := by omega
  unfold m_Reader_read_byte b_Reader_read_byte
  walk_at "ev*"
theorem mm_byte (hr : r < st.length) (σ : Slots) (h0 : σ[0]? = some (some (.c r))) : mMeth "Reader" "read_byte" m_Reader_read_byte (mVar 0) mNil σ (st.set r (rdC xs n)) = m_Reader_read_byte [.c r] (st.set r (rdC xs n)) := by
  have g0 := rd_get (xs := xs) hr n
  walk_at "ev*"
theorem x_read_number (hr : r < st.length) {m : Nat} {rest : List Nat} (hm : m < Cd.N70) (h : xs.drop n = Cd.wN m ++ rest) : m_Reader_read_number [.c r] (st.set r (rdC xs n)) = .ok (.d (.int (m : Nat))) (st.set r (rdC xs (n + (Cd.wN m).length))) := by
  have g0 := fun n => rd_get (xs := xs) hr n
  have key : ∀ (k i m n : Nat) (t f : Nat) (y3 y4 : Option A), k + i = 10 → m < 128 ^ k → (0 < i → 0 < m) → f = 128 ^ i → xs.drop n = Cd.wN m ++ rest →
      forA (kName 3) (mSeq (mSet 4 (mMeth "Reader" "read_byte" m_Reader_read_byte (mVar 0) mNil))
        (mSeq (mAug 1 (gI0 fun i j => .int (i + j)) (mBin (gMul false) (mBin gMod (mVar 4) (mC (.int 128))) (mVar 2)))
        (mSeq (mIf (mTst (mBin gLt (mVar 4) (mC (.int 128))))
        (mSeq (mIf (mAnd (mTst (mBin (gEq false) (mVar 4) (mC (.int 0)))) (mTst (mBin gGt (mVar 3) (mC (.int 0)))))
        (mRaise "DamagedData")
        mSkip)
        (mRet (mVar 1)))
        mSkip)
        (mSet 2 (mBin (gMul false) (mVar 2) (mC (.int 128))))))) (fun _ => True) (rangeA (i : Int) k 1) [some (.c r), some (.d (.int (t : Nat))), some (.d (.int (f : Nat))), y3, y4] (st.set r (rdC xs n)) = .rt (.d (.int ((t + m * f : Nat) : Int))) (st.set r (rdC xs (n + (Cd.wN m).length))) := by
    intro k
    induction k with
    | zero =>
      intro i m n t f y3 y4 hk hm h0 hf h
      have : m < 1 := hm
      have := h0 (by omega)
      omega
    | succ k ih =>
      intro i m n t f y3 y4 hk hm h0 hf h
      rw [rangeA_cons]
      by_cases c : m < 128
      · rw [Cd.wN_lo c] at h ⊢
        obtain ⟨hb, _⟩ := drop_hd h
        have e1 := x_read_byte hr hb
        have d1 : decide ((m : Int) < 128) = true := decide_eq_true (by omega)
        have d2 : (m : Int) % 128 = (m : Int) := by omega
        have d3 : (t : Int) + (m : Int) * (f : Int) = ((t + m * f : Nat) : Int) := by rw [Int.natCast_add, Int.natCast_mul]
        have m1 : CMulA (m : Int) (f : Int) := cmulL _ ⟨by omega, by omega⟩
        refine forA_rt ?_ trivial
        by_cases z : m = 0
        · subst z
          have d4 : decide ((0 : Int) < (i : Int)) = false := decide_eq_false (by
            intro q
            have := h0 (by omega)
            omega)
          have d5 : decide (((0 : Nat) : Int) = 0) = true := rfl
          clear ih h0 hb h hm hf hk c g0
          have g0 := fun n => rd_get (xs := xs) hr n
          clear hr
          walk_at "ev*"
        · have d5 : decide ((m : Int) = 0) = false := decide_eq_false (by omega)
          clear ih h0 hb h hm hf hk c
          clear hr
          walk_at "ev*"
      · rw [Cd.wN_hi c] at h ⊢
        obtain ⟨hb, hd⟩ := drop_hd h
        have e1 := x_read_byte hr hb
        have d1 : decide (((m % 128 + 128 : Nat) : Int) < 128) = false := decide_eq_false (by omega)
        have d2 : ((m % 128 + 128 : Nat) : Int) % 128 = ((m % 128 : Nat) : Int) := by omega
        have d3 : (t : Int) + ((m % 128 : Nat) : Int) * (f : Int) = ((t + m % 128 * f : Nat) : Int) := by rw [Int.natCast_add, Int.natCast_mul]
        have d4 : (f : Int) * 128 = ((f * 128 : Nat) : Int) := by rw [Int.natCast_mul]; rfl
        have m1 : CMulA ((m % 128 : Nat) : Int) (f : Int) := cmulL _ ⟨by omega, by omega⟩
        have m2 : CMulA (f : Int) 128 := cmulR _ (by decide)
        have hv : m / 128 < 128 ^ k := by
          rw [Nat.pow_succ] at hm
          exact Nat.div_lt_of_lt_mul (by rw [Nat.mul_comm]; exact hm)
        have ih := ih (i + 1) (m / 128) (n + 1) (t + m % 128 * f) (f * 128) (some (.d (.int (i : Int)))) (some (.d (.int ((m % 128 + 128 : Nat) : Int)))) (by omega) hv (fun _ => by omega) (by rw [hf, Nat.pow_succ]) hd
        have e9 : t + m % 128 * f + m / 128 * (f * 128) = t + m * f := by
          have : m = m % 128 + m / 128 * 128 := by omega
          conv => rhs; rw [this, Nat.add_mul]
          rw [Nat.mul_comm f 128, ← Nat.mul_assoc, Nat.add_assoc]
        rw [e9] at ih
        have e10 : n + 1 + (Cd.wN (m / 128)).length = n + ((m % 128 + 128) :: Cd.wN (m / 128)).length := by rw [List.length_cons]; omega
        rw [e10] at ih
        refine (forA_go (σ1 := [some (.c r), some (.d (.int ((t + m % 128 * f : Nat) : Int))), some (.d (.int ((f * 128 : Nat) : Int))), some (.d (.int (i : Int))), some (.d (.int ((m % 128 + 128 : Nat) : Int)))]) (st1 := st.set r (rdC xs (n + 1))) ?_ trivial).trans ih
        clear ih h0 hb h hm hf hk c hd hv e9 e10 hr
        generalize ((m % 128 + 128 : Nat) : Int) = B at *
        generalize ((m % 128 : Nat) : Int) = B1 at *
        walk_at "ev*"
  have k0 := key 10 0 m n 0 1 none none rfl hm (fun z => absurd z (by decide)) rfl h
  have e0 : 0 + m * 1 = m := by omega
  rw [e0] at k0
  have k0 : forA _ _ _ (rangeA 0 10 1) [some (.c r), some (.d (.int 0)), some (.d (.int 1)), none, none] (st.set r (rdC xs n)) = _ := k0
  clear key
  unfold m_Reader_read_number b_Reader_read_number
  walk_at "ev"
  rw [show Int.toNat 10 = 10 from rfl, k0]
  walk_at "ev"
end
end
end Lw
namespace Lw
open PySem PySem.Spec PyProof.Rows L2 Am
section
variable {P : Program} {w : World} {K : PySem.W.Frag} {mg : Str → Option Value} {base : Heap}
/-- a method reads a thing from its bytes -/
def Rds (m : MF) (w : List Nat) (d : D) : Prop := ∀ (st : Store) (r n : Nat) (xs rest : List Nat), r < st.length → xs.length ≤ SZ → xs.drop n = w ++ rest → m [.c r] (st.set r (rdC xs n)) = .ok (.d d) (st.set r (rdC xs (n + w.length)))
theorem rd_number {m : Nat} (hm : m < Cd.N70) : Rds m_Reader_read_number (Cd.wN m) (iN m) := fun _ _ _ _ _ hr _ h => x_read_number hr hm h
section
variable {r n : Nat} {st : Store} {xs : List Nat}
theorem mm_x {nm : Str} (m : MF) (hn : ∀ a b : A, List.lookup nm (F_Reader a b) = none) (hr : r < st.length) (σ : Slots) (h0 : σ[0]? = some (some (.c r))) : mMeth "Reader" nm m (mVar 0) mNil σ (st.set r (rdC xs n)) = m [.c r] (st.set r (rdC xs n)) := by
  have hv : viewI (st.set r (rdC xs n)) (.c r) = some (("Reader" : Str), F_Reader (.d (bL xs)) (.d (.int (n : Nat)))) := by
    rw [viewI_c, rd_get hr]
  have h1 : mVar 0 σ (st.set r (rdC xs n)) = .ok (.c r) (st.set r (rdC xs n)) := by unfold mVar; rw [h0]
  rw [mMeth_ap, h1, methO_ok, hv, methI_some _ _ _ _ _ _ _ _ (hn _ _)]
  rfl
theorem x_read_count (hr : r < st.length) {m : Nat} {rest : List Nat} (hm : m < Cd.N70) (h : xs.drop n = Cd.wN m ++ rest) (hb : m ≤ rest.length) : m_Reader_read_count [.c r] (st.set r (rdC xs n)) = .ok (.d (.int (m : Nat))) (st.set r (rdC xs (n + (Cd.wN m).length))) := by
  have g0 := fun n => rd_get (xs := xs) hr n
  have e1 := x_read_number hr hm h
  have hl := congrArg List.length h
  rw [List.length_drop, List.length_append] at hl
  have hp := Cd.wN_pos m
  have d1 : decide ((xs.length : Int) - ((n + (Cd.wN m).length : Nat) : Int) < (m : Int)) = false := decide_eq_false (by omega)
  clear hl h hp hb
  generalize n + (Cd.wN m).length = N at *
  unfold m_Reader_read_count b_Reader_read_count
  walk_at "ev*"
theorem cb_rd (k : Nat) (xs : List Nat) (n : Nat) : CBelow k (rdC xs n) := fun p hp => by
  rcases List.mem_cons.mp hp with rfl | hp
  · trivial
  · rw [List.mem_singleton.mp hp]
    trivial
theorem flat_at {α : Type} (w : α → List Nat) {items : List α} {j : Nat} {x : α} (h : items[j]? = some x) : (items.map w).flatten = ((items.take j).map w).flatten ++ (w x ++ ((items.drop (j + 1)).map w).flatten) := by
  conv => lhs; rw [← List.take_append_drop j items, drop_get h, List.map_append, List.map_cons, List.flatten_append, List.flatten_cons]
theorem flat_ge {α : Type} (w : α → List Nat) : ∀ {items : List α}, (∀ x ∈ items, 1 ≤ (w x).length) → items.length ≤ (items.map w).flatten.length
  | [], _ => Nat.le_refl _
  | x :: r, h => by
    rw [List.map_cons, List.flatten_cons, List.length_append, List.length_cons]
    have := h x List.mem_cons_self
    have := flat_ge w (items := r) fun y hy => h y (List.mem_cons_of_mem _ hy)
    omega
theorem flat_succ {α : Type} (w : α → List Nat) {items : List α} {j : Nat} {x : α} (h : items[j]? = some x) : ((items.take (j + 1)).map w).flatten.length = ((items.take j).map w).flatten.length + (w x).length := by
  rw [List.take_add_one, h, List.map_append, List.flatten_append, List.length_append]
  show _ + (w x ++ []).length = _
  rw [List.append_nil]
/-- how a list of things lies -/
theorem lie_count {α : Type} (w : α → List Nat) {items : List α} {rest : List Nat} (hw : ∀ x ∈ items, 1 ≤ (w x).length) (hs : xs.length ≤ SZ) (h : xs.drop n = Cd.wL (items.map w) ++ rest) :
    items.length < Cd.N70 ∧ items.length ≤ 16000000 ∧ xs.drop n = Cd.wN items.length ++ ((items.map w).flatten ++ rest) ∧ items.length ≤ ((items.map w).flatten ++ rest).length ∧ ∀ j x, items[j]? = some x → ∃ rest', xs.drop (n + (Cd.wN items.length).length + ((items.take j).map w).flatten.length) = w x ++ rest' := by
  have h1 := flat_ge w hw
  have hl := congrArg List.length h
  unfold Cd.wL at hl h
  rw [List.length_map] at h hl
  rw [List.length_drop, List.length_append, List.length_append] at hl
  rw [List.append_assoc] at h
  have h2 : items.length ≤ 16000000 := by unfold SZ at hs; omega
  refine ⟨Nat.lt_of_le_of_lt h2 (by decide), h2, h, by rw [List.length_append]; omega, fun j x hx => ?_⟩
  have h3 := drop_app h
  rw [flat_at w hx, List.append_assoc] at h3
  have h4 := drop_app h3
  rw [List.append_assoc] at h4
  exact ⟨_, h4⟩
theorem lie_end {α : Type} (w : α → List Nat) (items : List α) : n + (Cd.wN items.length).length + ((items.take items.length).map w).flatten.length = n + (Cd.wL (items.map w)).length := by
  unfold Cd.wL
  rw [List.take_of_length_le (Nat.le_refl _), List.length_append, List.length_map]
  omega
theorem x_rng {m : Nat} {S S1 : Store} {σ : Slots} {f : ME} (e : f σ S = .ok (.d (.int (m : Nat))) S1) (h : m ≤ 16000000) : iRng1M (mCons f mNil) σ S = .ok ⟨rangeA 0 m 1, fun _ => True⟩ S1 := by
  have h1 : -(2 ^ 62) ≤ (m : Int) ∧ (m : Int) < 2 ^ 62 := by omega
  unfold iRng1M
  rw [mCons_ap, e]
  show ifc (-(2 ^ 62) ≤ (m : Int) ∧ (m : Int) < 2 ^ 62) _ _ = _
  rw [ifc_pos h1]
  rfl
theorem x_lcR {α : Type} {m : MF} {nm : Str} {items : List α} {w : α → List Nat} {d : α → D} (hn : ∀ a b : A, List.lookup nm (F_Reader a b) = none) (hm : ∀ x ∈ items, Rds m (w x) (d x)) (hw : ∀ x ∈ items, 1 ≤ (w x).length) {σ : Slots} {j : Nat} {rest : List Nat}
    (hσ : σ[0]? = some (some (.c r))) (hσ2 : ∀ a, ((wipeA σ [j]).set j (some a))[0]? = some (some (.c r))) (hr : r < st.length) (hs : xs.length ≤ SZ) (h : xs.drop n = Cd.wL (items.map w) ++ rest) :
    mLc false [j] (pt1 j) (iRng1M (mCons (mMeth "Reader" "read_count" m_Reader_read_count (mVar 0) mNil) mNil)) mYes (mMeth "Reader" nm m (mVar 0) mNil) σ (st.set r (rdC xs n)) = .ok (.d (.list (items.map d))) (st.set r (rdC xs (n + (Cd.wL (items.map w)).length))) := by
  obtain ⟨c1, c2, c3, c4, c5⟩ := lie_count w hw hs h
  have e1 := x_read_count hr c1 c3 c4
  obtain ⟨ds, s, e, rfl, rfl⟩ := mLc_eff (vs := [j]) (pt := pt1 j) (f := mMeth "Reader" nm m (mVar 0) mNil) (σ := σ) (st1 := st.set r (rdC xs (n + (Cd.wN items.length).length))) (fun j ds s => ds = (items.take j).map d ∧ s = st.set r (rdC xs (n + (Cd.wN items.length).length + ((items.take j).map w).flatten.length)))
    (x_rng ((mm_x (nm := "read_count") _ (fun _ _ => rfl) hr σ hσ).trans e1) c2) (by rw [rangeA_length]; exact c2) ⟨rfl, rfl⟩ (fun _ _ _ _ => trivial) (fun k ds s ⟨_, e⟩ => by
      subst e
      refine ⟨by rw [List.length_set, List.length_set], fun i hi => ?_⟩
      by_cases z : r = i
      · subst z
        exact .inr ⟨_, List.getElem?_set_self hr, cb_rd _ _ _⟩
      · rw [List.getElem?_set_ne z, List.getElem?_set_ne z]; exact .inl rfl) (fun k x ds s hx ⟨e2, e3⟩ => by
      subst e2 e3
      obtain ⟨hk, rfl⟩ := rangeA_get hx
      obtain ⟨z, hz⟩ : ∃ z, items[k]? = some z := ⟨_, List.getElem?_eq_getElem hk⟩
      obtain ⟨rest', hd⟩ := c5 k z hz
      refine ⟨_, d z, st.set r (rdC xs (n + (Cd.wN items.length).length + ((items.take (k + 1)).map w).flatten.length)), rfl, ?_, ?_, rfl⟩
      · have hr2 : r < (st ++ [Cell.lst (((items.take k).map d).map A.d)]).length := by rw [List.length_append]; omega
        have := hm z (List.mem_of_getElem? hz) (st ++ [Cell.lst (((items.take k).map d).map A.d)]) r _ xs rest' hr2 hs hd
        rw [← mm_x m hn hr2 _ (hσ2 (.d (.int (0 + (k : Nat) * 1))))] at this
        rw [List.set_append_left _ _ hr, List.set_append_left _ _ hr] at this
        rw [flat_succ w hz, ← Nat.add_assoc]
        exact this
      · rw [List.take_add_one, hz, List.map_append]
        rfl)
  rw [e, rangeA_length, lie_end w items, List.take_of_length_le (Nat.le_refl _)]
end
theorem rd_numbers {ns : List Nat} (h : ∀ m ∈ ns, m < Cd.N70) : Rds m_Reader_read_numbers (Cd.wL (ns.map Cd.wN)) (.tup (ns.map iN)) := fun st r n xs rest hr hs hd => by
  have e := x_lcR (nm := "read_number") (items := ns) (w := Cd.wN) (d := iN) (fun _ _ => rfl) (fun m hm => rd_number (h m hm)) (fun m _ => Cd.wN_pos m) (σ := [some (.c r), none]) (j := 1) rfl (fun _ => rfl) hr hs hd
  have hl : ns.length ≤ 16000000 := (lie_count Cd.wN (fun m _ => Cd.wN_pos m) hs hd).2.1
  have s1 : ((ns.map iN).map A.d).length ≤ SZ := by rw [List.length_map, List.length_map]; exact hl
  unfold m_Reader_read_numbers b_Reader_read_numbers
  clear hd
  walk_at "ev*"
theorem rd_pair {q : Nat × Nat} (h : q.1 < Cd.N70 ∧ q.2 < Cd.N70) : Rds m_Reader_read_pair (Cd.wPair q) (.tup [iN q.1, iN q.2]) := fun st r n xs rest hr hs hd => by
  obtain ⟨i, j⟩ := q
  unfold Cd.wPair at hd ⊢
  rw [List.append_assoc] at hd
  have e1 := rd_number h.1 st r n xs _ hr hs hd
  have e2 := rd_number h.2 st r _ xs _ hr hs (drop_app hd)
  have g0 := fun n => rd_get (xs := xs) hr n
  rw [List.length_append, ← Nat.add_assoc]
  show m_Reader_read_pair [.c r] (st.set r (rdC xs n)) = .ok (.d (.tup [iN i, iN j])) _
  have e1 : m_Reader_read_number [.c r] (st.set r (rdC xs n)) = .ok (.d (iN i)) (st.set r (rdC xs (n + (Cd.wN i).length))) := e1
  have e2 : m_Reader_read_number [.c r] (st.set r (rdC xs (n + (Cd.wN i).length))) = .ok (.d (iN j)) (st.set r (rdC xs (n + (Cd.wN i).length + (Cd.wN j).length))) := e2
  clear hd h
  unfold m_Reader_read_pair b_Reader_read_pair
  show _ = Res.ok _ (st.set r (rdC xs (n + (Cd.wN i).length + (Cd.wN j).length)))
  generalize n + (Cd.wN i).length + (Cd.wN j).length = N2 at *
  generalize n + (Cd.wN i).length = N1 at *
  walk_at "ev*"
end
end Lw
namespace Lw
open PySem PySem.Spec PyProof.Rows L2 Am
section
variable {P : Program} {w : World} {K : PySem.W.Frag} {mg : Str → Option Value} {base : Heap}
theorem str_add (l : List Nat) (c : Nat) : ((⟨l.toArray⟩ : Str) ++ (⟨#[c]⟩ : Str)) = ⟨(l ++ [c]).toArray⟩ := by
  show (⟨l.toArray ++ #[c]⟩ : Str) = _
  congr 1
  simp
theorem x_letters {c : Nat} (hc : c ∈ Cd.alpha) (r : Nat) (nm : A) (y2 y4 : Option A) (S : Store) : mLc false [5] (pt1 5) (iStrM (mC (.str "abcdefghijklmnopqrstuvwxyz0123456789_"))) (mTst (mBin (gEq false) (mCallB gOrd (mCons (mVar 5) mNil)) (mVar 3))) (mVar 5) [some (.c r), some nm, y2, some (.d (.int (c : Nat))), y4, none] S = .ok (.d (.list [.str ⟨#[c]⟩])) S := by
  have hi : (chS "abcdefghijklmnopqrstuvwxyz0123456789_").map D.str = Cd.alpha.map fun c => D.str ⟨#[c]⟩ := by rw [chS_codes]; rfl
  rw [mLc_map (fun a => match a with | .d (.str x) => x.cps.toList == [c] | _ => false) (fun a => match a with | .d x => x | _ => .non) (xs := (Cd.alpha.map fun c => D.str ⟨#[c]⟩).map A.d) (st1 := S) (ok := fun _ => True) (by
    rw [iStrM_ap]
    show strR (.ok (.d (.str "abcdefghijklmnopqrstuvwxyz0123456789_")) S) = _
    rw [strR_s, hi]) (fun _ => trivial) (by decide) (fun x hx ac => by
      obtain ⟨a, ha, rfl⟩ := dA_mem hx
      refine ⟨[some (.c r), some nm, y2, some (.d (.int (c : Nat))), y4, some (.d (.str ⟨#[a]⟩))], rfl, ?_, fun _ => rfl⟩
      have o := ord1 a (S ++ [Cell.lst (ac.map A.d)])
      have d : decide ((a : Int) = (c : Int)) = (([a] : List Nat) == [c]) := by
        by_cases z : a = c
        · subst z; rw [decide_eq_true rfl]; simp
        · rw [decide_eq_false (by omega)]; simp [z]
      clear hx ha hi hc
      walk_at "ev"
      rw [o]
      walk_at "ev"
      rw [d])]
  have hf : ∀ c ∈ Cd.alpha, Cd.alpha.filter (fun a => ([a] : List Nat) == [c]) = [c] := by decide +kernel
  rw [List.filter_map, List.filter_map]
  show Res.ok (A.d (.list ((((Cd.alpha.filter (fun a => ([a] : List Nat) == [c])).map fun c => D.str ⟨#[c]⟩).map A.d).map _))) S = _
  rw [hf c hc]
  rfl
theorem wName_pos (s : Str) : 1 ≤ (Cd.wName s).length := by
  unfold Cd.wName Cd.wL
  rw [List.length_append]
  have := Cd.wN_pos ((Cd.codes s).map Cd.wN).length
  omega
theorem rd_name {s : Str} (h : NmO s) : Rds m_Reader_read_name (Cd.wName s) (.str s) := fun st r n xs rest hr hs hd => by
  obtain ⟨h1, h2, h3⟩ := h
  obtain ⟨c1, c2, c3, c4, c5⟩ := lie_count Cd.wN (fun m _ => Cd.wN_pos m) hs hd
  have e1 := x_read_count hr c1 c3 c4
  unfold m_Reader_read_name b_Reader_read_name
  clear hd
  walk_at "ev"
  rw [e1]
  walk_at "ev"
  generalize ho : forA _ _ _ _ _ _ = o
  obtain ⟨σ1, st1, rfl, y2, y3, y4, rfl, rfl⟩ := forR_nx (n := (Cd.codes s).length) ho (fun i σ t => ∃ (y2 y3 y4 : Option A), σ = [some (.c r), some (.d (.str ⟨((Cd.codes s).take i).toArray⟩)), y2, y3, y4, none] ∧ t = st.set r (rdC xs (n + (Cd.wN (Cd.codes s).length).length + (((Cd.codes s).take i).map Cd.wN).flatten.length)))
    ⟨_, _, _, rfl, rfl⟩ (fun _ _ _ _ _ => trivial) (fun i σ t hi ⟨y2, y3, y4, q1, q2⟩ => by
      subst q1 q2
      obtain ⟨c, hc⟩ : ∃ c, (Cd.codes s)[i]? = some c := ⟨_, List.getElem?_eq_getElem hi⟩
      have hm := List.mem_of_getElem? hc
      obtain ⟨rest', hd⟩ := c5 i c hc
      have e2 := x_read_number hr (h1.2 c hm) hd
      have e3 := x_letters (h3 c hm) r (.d (.str ⟨((Cd.codes s).take i).toArray⟩)) (some (.d (.int (0 + (i : Nat))))) y4
      have e4 := str_add ((Cd.codes s).take i) c
      have e5 : (Cd.codes s).take i ++ [c] = (Cd.codes s).take (i + 1) := by rw [List.take_add_one, hc]; rfl
      rw [e5] at e4
      have l1 : (⟨((Cd.codes s).take i).toArray⟩ : Str).length + (⟨#[c]⟩ : Str).length ≤ SZ := by
        show ((Cd.codes s).take i).toArray.size + 1 ≤ SZ
        rw [List.size_toArray, List.length_take]
        have := codes_len s
        unfold SZ
        omega
      have d0 : decide (((1 : Nat) : Int) = 0) = false := rfl
      have g0 := fun n => rd_get (xs := xs) hr n
      refine nxt_of (σ := [some (.c r), some (.d (.str ⟨((Cd.codes s).take (i + 1)).toArray⟩)), some (.d (.int (0 + (i : Nat)))), some (.d (.int (c : Nat))), some (.d (.list [.str ⟨#[c]⟩])), none]) (st := st.set r (rdC xs (n + (Cd.wN (Cd.codes s).length).length + (((Cd.codes s).take (i + 1)).map Cd.wN).flatten.length))) ?_ ⟨_, _, _, rfl, rfl⟩
      rw [flat_succ Cd.wN hc, ← Nat.add_assoc]
      clear ho e1 c1 c2 c3 c4 c5 hd e5 h1 h2 h3 hs hi hm hc
      generalize n + (Cd.wN (Cd.codes s).length).length + (((Cd.codes s).take i).map Cd.wN).flatten.length = N1 at *
      generalize N1 + (Cd.wN c).length = N2 at *
      generalize (⟨((Cd.codes s).take i).toArray⟩ : Str) = X1 at *
      generalize (⟨((Cd.codes s).take (i + 1)).toArray⟩ : Str) = X2 at *
      walk_at "ev*")
  rw [List.take_of_length_le (Nat.le_refl _)]
  have e9 : (⟨(Cd.codes s).toArray⟩ : Str) = s := by
    show (⟨s.cps.toList.toArray⟩ : Str) = s
    rw [Array.toArray_toList]
  have e8 := lie_end (n := n) Cd.wN (Cd.codes s)
  rw [List.take_of_length_le (Nat.le_refl _)] at e8
  rw [e9, e8]
  clear ho
  walk_at "ev"
  rfl
theorem rd_path {p : Cd.Path} (h : PaO p) : Rds m_Reader_read_path (Cd.wPath p) (pD p) := fun st r n xs rest hr hs hd => by
  have e := x_lcR (nm := "read_name") (items := p) (w := Cd.wName) (d := D.str) (fun _ _ => rfl) (fun m hm => rd_name (h.2 m hm)) (fun m _ => wName_pos m) (σ := [some (.c r), none]) (j := 1) rfl (fun _ => rfl) hr hs hd
  have h0 := h.1
  have s1 : ((p.map D.str).map A.d).length ≤ SZ := by rw [List.length_map, List.length_map]; unfold SZ; omega
  unfold m_Reader_read_path b_Reader_read_path
  clear hd
  walk_at "ev*"
  rfl
theorem rd_choice {st : Store} {r n : Nat} {xs : List Nat} (hr : r < st.length) {b k : Nat} (hb : xs[n]? = some b) (hk : b < k) : m_Reader_read_choice [.c r, .d (.int (k : Nat))] (st.set r (rdC xs n)) = .ok (.d (.int (b : Nat))) (st.set r (rdC xs (n + 1))) := by
  have g0 := fun n => rd_get (xs := xs) hr n
  have e1 := x_read_byte hr hb
  have d1 : decide ((k : Int) ≤ (b : Int)) = false := decide_eq_false (by omega)
  unfold m_Reader_read_choice b_Reader_read_choice
  clear hb hk
  walk_at "ev*"
end
end Lw
namespace Lw
open PySem PySem.Spec PyProof.Rows L2 Am
section
variable {P : Program} {w : World} {K : PySem.W.Frag} {mg : Str → Option Value} {base : Heap}
theorem wk_folder (st : Store) : gIx (.d (.kt [.str "folder", .str "file", .str "put", .str "trim", .str "move", .str "drop", .str "snap", .str "forget", .str "back"])) (.d (.int ((0 : Nat) : Int))) st = .ok (.d (.str "folder")) st := rfl
theorem wk_file (st : Store) : gIx (.d (.kt [.str "folder", .str "file", .str "put", .str "trim", .str "move", .str "drop", .str "snap", .str "forget", .str "back"])) (.d (.int ((1 : Nat) : Int))) st = .ok (.d (.str "file")) st := rfl
theorem wk_put (st : Store) : gIx (.d (.kt [.str "folder", .str "file", .str "put", .str "trim", .str "move", .str "drop", .str "snap", .str "forget", .str "back"])) (.d (.int ((2 : Nat) : Int))) st = .ok (.d (.str "put")) st := rfl
theorem wk_trim (st : Store) : gIx (.d (.kt [.str "folder", .str "file", .str "put", .str "trim", .str "move", .str "drop", .str "snap", .str "forget", .str "back"])) (.d (.int ((3 : Nat) : Int))) st = .ok (.d (.str "trim")) st := rfl
theorem wk_move (st : Store) : gIx (.d (.kt [.str "folder", .str "file", .str "put", .str "trim", .str "move", .str "drop", .str "snap", .str "forget", .str "back"])) (.d (.int ((4 : Nat) : Int))) st = .ok (.d (.str "move")) st := rfl
theorem wk_drop (st : Store) : gIx (.d (.kt [.str "folder", .str "file", .str "put", .str "trim", .str "move", .str "drop", .str "snap", .str "forget", .str "back"])) (.d (.int ((5 : Nat) : Int))) st = .ok (.d (.str "drop")) st := rfl
theorem wk_snap (st : Store) : gIx (.d (.kt [.str "folder", .str "file", .str "put", .str "trim", .str "move", .str "drop", .str "snap", .str "forget", .str "back"])) (.d (.int ((6 : Nat) : Int))) st = .ok (.d (.str "snap")) st := rfl
theorem wk_forget (st : Store) : gIx (.d (.kt [.str "folder", .str "file", .str "put", .str "trim", .str "move", .str "drop", .str "snap", .str "forget", .str "back"])) (.d (.int ((7 : Nat) : Int))) st = .ok (.d (.str "forget")) st := rfl
theorem wk_back (st : Store) : gIx (.d (.kt [.str "folder", .str "file", .str "put", .str "trim", .str "move", .str "drop", .str "snap", .str "forget", .str "back"])) (.d (.int ((8 : Nat) : Int))) st = .ok (.d (.str "back")) st := rfl
theorem rd_record {c : Cd.Rec} (h : RcO c) : Rds m_Reader_read_record (Cd.wRec c) (rD c) := fun st r n xs rest hr hs hd => by
  have g0 := fun n => rd_get (xs := xs) hr n
  unfold m_Reader_read_record b_Reader_read_record
  cases c with
  | folder p =>
    have hd : xs.drop n = 0 :: (Cd.wPath p ++ rest) := hd
    obtain ⟨hb, hd⟩ := drop_hd hd
    have e0 := rd_choice (k := 9) hr hb (by decide)
    have e1 := rd_path h st r _ xs rest hr hs hd
    have e9 : n + (Cd.wRec (.folder p)).length = n + 1 + (Cd.wPath p).length := by show n + (0 :: Cd.wPath p).length = _; rw [List.length_cons]; omega
    rw [e9]
    generalize n + 1 + (Cd.wPath p).length = N2 at *
    have wi := fun s => wk_folder s
    have wn := fun s => wn_folder s
    have w1 := fun s => wput_folder s
    have w2 := fun s => wtrim_folder s
    have w3 := fun s => wmove_folder s
    clear hd hb h hs e9
    unfold rD
    walk_at "ev*"
  | file p =>
    have hd : xs.drop n = 1 :: (Cd.wPath p ++ rest) := hd
    obtain ⟨hb, hd⟩ := drop_hd hd
    have e0 := rd_choice (k := 9) hr hb (by decide)
    have e1 := rd_path h st r _ xs rest hr hs hd
    have e9 : n + (Cd.wRec (.file p)).length = n + 1 + (Cd.wPath p).length := by show n + (1 :: Cd.wPath p).length = _; rw [List.length_cons]; omega
    rw [e9]
    generalize n + 1 + (Cd.wPath p).length = N2 at *
    have wi := fun s => wk_file s
    have wn := fun s => wn_file s
    have w1 := fun s => wput_file s
    have w2 := fun s => wtrim_file s
    have w3 := fun s => wmove_file s
    clear hd hb h hs e9
    unfold rD
    walk_at "ev*"
  | drop p =>
    have hd : xs.drop n = 5 :: (Cd.wPath p ++ rest) := hd
    obtain ⟨hb, hd⟩ := drop_hd hd
    have e0 := rd_choice (k := 9) hr hb (by decide)
    have e1 := rd_path h st r _ xs rest hr hs hd
    have e9 : n + (Cd.wRec (.drop p)).length = n + 1 + (Cd.wPath p).length := by show n + (5 :: Cd.wPath p).length = _; rw [List.length_cons]; omega
    rw [e9]
    generalize n + 1 + (Cd.wPath p).length = N2 at *
    have wi := fun s => wk_drop s
    have wn := fun s => wn_drop s
    have w1 := fun s => wput_drop s
    have w2 := fun s => wtrim_drop s
    have w3 := fun s => wmove_drop s
    clear hd hb h hs e9
    unfold rD
    walk_at "ev*"
  | snap p =>
    have hd : xs.drop n = 6 :: (Cd.wName p ++ rest) := hd
    obtain ⟨hb, hd⟩ := drop_hd hd
    have e0 := rd_choice (k := 9) hr hb (by decide)
    have e1 := rd_name h st r _ xs rest hr hs hd
    have e9 : n + (Cd.wRec (.snap p)).length = n + 1 + (Cd.wName p).length := by show n + (6 :: Cd.wName p).length = _; rw [List.length_cons]; omega
    rw [e9]
    generalize n + 1 + (Cd.wName p).length = N2 at *
    have wi := fun s => wk_snap s
    have wn := fun s => wn_snap s
    clear hd hb h hs e9
    unfold rD
    walk_at "ev*"
  | forget p =>
    have hd : xs.drop n = 7 :: (Cd.wName p ++ rest) := hd
    obtain ⟨hb, hd⟩ := drop_hd hd
    have e0 := rd_choice (k := 9) hr hb (by decide)
    have e1 := rd_name h st r _ xs rest hr hs hd
    have e9 : n + (Cd.wRec (.forget p)).length = n + 1 + (Cd.wName p).length := by show n + (7 :: Cd.wName p).length = _; rw [List.length_cons]; omega
    rw [e9]
    generalize n + 1 + (Cd.wName p).length = N2 at *
    have wi := fun s => wk_forget s
    have wn := fun s => wn_forget s
    clear hd hb h hs e9
    unfold rD
    walk_at "ev*"
  | back p =>
    have hd : xs.drop n = 8 :: (Cd.wName p ++ rest) := hd
    obtain ⟨hb, hd⟩ := drop_hd hd
    have e0 := rd_choice (k := 9) hr hb (by decide)
    have e1 := rd_name h st r _ xs rest hr hs hd
    have e9 : n + (Cd.wRec (.back p)).length = n + 1 + (Cd.wName p).length := by show n + (8 :: Cd.wName p).length = _; rw [List.length_cons]; omega
    rw [e9]
    generalize n + 1 + (Cd.wName p).length = N2 at *
    have wi := fun s => wk_back s
    have wn := fun s => wn_back s
    clear hd hb h hs e9
    unfold rD
    walk_at "ev*"
  | move p q =>
    have hd : xs.drop n = 4 :: ((Cd.wPath p ++ Cd.wPath q) ++ rest) := hd
    obtain ⟨hb, hd⟩ := drop_hd hd
    rw [List.append_assoc] at hd
    have e0 := rd_choice (k := 9) hr hb (by decide)
    have e1 := rd_path h.1 st r _ xs _ hr hs hd
    have e2 := rd_path h.2 st r _ xs rest hr hs (drop_app hd)
    have e9 : n + (Cd.wRec (.move p q)).length = n + 1 + (Cd.wPath p).length + (Cd.wPath q).length := by show n + (4 :: (Cd.wPath p ++ Cd.wPath q)).length = _; rw [List.length_cons, List.length_append]; omega
    rw [e9]
    generalize n + 1 + (Cd.wPath p).length + (Cd.wPath q).length = N3 at *
    generalize n + 1 + (Cd.wPath p).length = N2 at *
    have wi := fun s => wk_move s
    have wn := fun s => wn_move s
    have w1 := fun s => wput_move s
    have w2 := fun s => wtrim_move s
    have w3 := fun s => wmove_move s
    clear hd hb h hs e9
    unfold rD
    walk_at "ev*"
  | trim p l b =>
    have hd : xs.drop n = 3 :: ((Cd.wPath p ++ (Cd.wN l ++ Cd.wN b)) ++ rest) := hd
    obtain ⟨hb, hd⟩ := drop_hd hd
    rw [List.append_assoc, List.append_assoc] at hd
    have e0 := rd_choice (k := 9) hr hb (by decide)
    have e1 := rd_path h.1 st r _ xs _ hr hs hd
    have hd2 := drop_app hd
    have e2 : m_Reader_read_number _ _ = Res.ok (.d (iN l)) _ := rd_number h.2.1 st r _ xs _ hr hs hd2
    have e3 : m_Reader_read_number _ _ = Res.ok (.d (iN b)) _ := rd_number h.2.2 st r _ xs rest hr hs (drop_app hd2)
    have e9 : n + (Cd.wRec (.trim p l b)).length = n + 1 + (Cd.wPath p).length + (Cd.wN l).length + (Cd.wN b).length := by show n + (3 :: (Cd.wPath p ++ (Cd.wN l ++ Cd.wN b))).length = _; rw [List.length_cons, List.length_append, List.length_append]; omega
    rw [e9]
    generalize n + 1 + (Cd.wPath p).length + (Cd.wN l).length + (Cd.wN b).length = N4 at *
    generalize n + 1 + (Cd.wPath p).length + (Cd.wN l).length = N3 at *
    generalize n + 1 + (Cd.wPath p).length = N2 at *
    have wi := fun s => wk_trim s
    have wn := fun s => wn_trim s
    have w1 := fun s => wput_trim s
    have w2 := fun s => wtrim_trim s
    clear hd hd2 hb h hs e9
    unfold rD
    walk_at "ev*"
  | put p l ts =>
    have hd : xs.drop n = 2 :: ((Cd.wPath p ++ (Cd.wN l ++ Cd.wL (ts.map Cd.wPair))) ++ rest) := hd
    obtain ⟨hb, hd⟩ := drop_hd hd
    rw [List.append_assoc, List.append_assoc] at hd
    obtain ⟨h1, h2, h3, h4⟩ := h
    have e0 := rd_choice (k := 9) hr hb (by decide)
    have e1 := rd_path h1 st r _ xs _ hr hs hd
    have hd2 := drop_app hd
    have e2 : m_Reader_read_number _ _ = Res.ok (.d (iN l)) _ := rd_number h2 st r _ xs _ hr hs hd2
    have e3 := x_lcR (nm := "read_pair") (items := ts) (w := Cd.wPair) (d := fun q => .tup [iN q.1, iN q.2]) (fun _ _ => rfl) (fun q hq => rd_pair (h4 q hq)) (fun q _ => by
      unfold Cd.wPair
      rw [List.length_append]
      have := Cd.wN_pos q.1
      omega) (σ := [some (.c r), some (.d (.str "put")), some (.d (pD p)), some (.d (iN l)), none]) (j := 4) rfl (fun _ => rfl) hr hs (drop_app hd2)
    have s1 := len_ok (f := fun q : Nat × Nat => .tup [iN q.1, iN q.2]) (xs := ts) (by omega)
    have e9 : n + (Cd.wRec (.put p l ts)).length = n + 1 + (Cd.wPath p).length + (Cd.wN l).length + (Cd.wL (ts.map Cd.wPair)).length := by show n + (2 :: (Cd.wPath p ++ (Cd.wN l ++ Cd.wL (ts.map Cd.wPair)))).length = _; rw [List.length_cons, List.length_append, List.length_append]; omega
    rw [e9]
    generalize n + 1 + (Cd.wPath p).length + (Cd.wN l).length + (Cd.wL (ts.map Cd.wPair)).length = N4 at *
    generalize n + 1 + (Cd.wPath p).length + (Cd.wN l).length = N3 at *
    generalize n + 1 + (Cd.wPath p).length = N2 at *
    have wi := fun s => wk_put s
    have wn := fun s => wn_put s
    have w1 := fun s => wput_put s
    clear hd hd2 hb h1 h2 h3 h4 hs e9
    unfold rD
    walk_at "ev*"
theorem wRec_pos (c : Cd.Rec) : 1 ≤ (Cd.wRec c).length := by
  cases c <;> exact Nat.succ_le_succ (Nat.zero_le _)
theorem rd_group {rs : List Cd.Rec} (h : ∀ c ∈ rs, RcO c) : Rds m_Reader_read_group (Cd.wGroup rs) (.list (rs.map rD)) := fun st r n xs rest hr hs hd => by
  have e := x_lcR (nm := "read_record") (items := rs) (w := Cd.wRec) (d := rD) (fun _ _ => rfl) (fun m hm => rd_record (h m hm)) (fun m _ => wRec_pos m) (σ := [some (.c r), none]) (j := 1) rfl (fun _ => rfl) hr hs hd
  unfold m_Reader_read_group b_Reader_read_group
  clear hd
  walk_at "ev*"
  rfl
theorem rd_thing {t : Cd.Thing} (h : ThO t) : Rds m_Reader_read_thing (Cd.wThing t) (tD t) := fun st r n xs rest hr hs hd => by
  have g0 := fun n => rd_get (xs := xs) hr n
  unfold m_Reader_read_thing b_Reader_read_thing
  cases t with
  | none =>
    have hd : xs.drop n = 0 :: rest := hd
    obtain ⟨hb, hd⟩ := drop_hd hd
    have e0 := rd_choice (k := 2) hr hb (by decide)
    have e0 : m_Reader_read_choice [.c r, .d (.int 2)] _ = _ := e0
    have d0 : decide (((0 : Nat) : Int) = 0) = true := rfl
    have e9 : n + (Cd.wThing none).length = n + 1 := rfl
    rw [e9]
    clear hd hb h hs e9
    unfold tD
    walk_at "ev*"
  | some v =>
    obtain ⟨l, ns⟩ := v
    have hd : xs.drop n = 1 :: ((Cd.wN l ++ Cd.wL (ns.map Cd.wN)) ++ rest) := hd
    obtain ⟨hb, hd⟩ := drop_hd hd
    rw [List.append_assoc] at hd
    have e0 := rd_choice (k := 2) hr hb (by decide)
    have e0 : m_Reader_read_choice [.c r, .d (.int 2)] _ = _ := e0
    have d0 : decide (((1 : Nat) : Int) = 0) = false := rfl
    have e1 : m_Reader_read_number _ _ = Res.ok (.d (iN l)) _ := rd_number h.1 st r _ xs _ hr hs hd
    have e2 := rd_numbers h.2.2 st r _ xs rest hr hs (drop_app hd)
    have e9 : n + (Cd.wThing (some (l, ns))).length = n + 1 + (Cd.wN l).length + (Cd.wL (ns.map Cd.wN)).length := by show n + (1 :: (Cd.wN l ++ Cd.wL (ns.map Cd.wN))).length = _; rw [List.length_cons, List.length_append]; omega
    rw [e9]
    generalize n + 1 + (Cd.wN l).length + (Cd.wL (ns.map Cd.wN)).length = N3 at *
    generalize n + 1 + (Cd.wN l).length = N2 at *
    clear hd hb h hs e9
    unfold tD
    walk_at "ev*"
end
end Lw
namespace Lw
open PySem PySem.Spec PyProof.Rows L2 Am
section
variable {P : Program} {w : World} {K : PySem.W.Frag} {mg : Str → Option Value} {base : Heap}
theorem rds_app {m : MF} {w : List Nat} {d : D} (h : Rds m w d) {st : Store} {r n : Nat} {xs rest : List Nat} (hr : r < st.length) (hs : xs.length ≤ SZ) (hd : xs.drop n = w ++ rest) (J : Store) : m [.c r] (st.set r (rdC xs n) ++ J) = .ok (.d d) (st.set r (rdC xs (n + w.length)) ++ J) := by
  have := h (st ++ J) r n xs rest (by rw [List.length_append]; omega) hs hd
  rw [List.set_append_left _ _ hr, List.set_append_left _ _ hr] at this
  exact this
theorem putA_take {κ κ' α β : Type} [DecidableEq κ'] (e : κ → κ') (he : ∀ a b, e a = e b → a = b) (f : α → β) {kvs : List (κ × α)} (nd : (kvs.map (·.1)).Nodup) {i : Nat} {p : κ × α} (h : kvs[i]? = some p) : putA ((kvs.take i).map fun q => (e q.1, f q.2)) (e p.1) (f p.2) = (kvs.take (i + 1)).map fun q => (e q.1, f q.2) := by
  rw [putA_fresh, List.take_add_one, h, List.map_append]
  · rfl
  · intro hm
    rw [List.map_map] at hm
    obtain ⟨q, hq, e1⟩ := List.mem_map.mp hm
    have e1 : q.1 = p.1 := he _ _ e1
    obtain ⟨j, hj⟩ := List.getElem?_of_mem hq
    rw [List.getElem?_take] at hj
    split at hj
    · rename_i hji
      have l1 := (List.getElem?_eq_some_iff.mp h).1
      have l2 := (List.getElem?_eq_some_iff.mp hj).1
      have a1 : (kvs.map (·.1))[j]? = some p.1 := by rw [List.getElem?_map, hj]; exact congrArg some e1
      have a2 : (kvs.map (·.1))[i]? = some p.1 := by rw [List.getElem?_map, h]; rfl
      have := (List.getElem?_inj (by rw [List.length_map]; exact l2) nd).mp (a1.trans a2.symm)
      omega
    · cases hj
theorem exit2_rdT {st : Store} {r n N : Nat} {xs : List Nat} (hr : r < st.length) {kvs : List (List Key × A)} {ds : List (List Key × D)} (hd : pairsD kvs = some ds) : exitR 2 (st.set r (rdC xs n)) (.c st.length) (st.set r (rdC xs N) ++ [.dT kvs]) = .ok (.d (.dT ds)) (st.set r (rdC xs N)) := by
  have hg : (st.set r (rdC xs N) ++ [Cell.dT kvs])[st.length]? = some (.dT kvs) := by
    rw [List.getElem?_append_right (by rw [List.length_set]; exact Nat.le_refl _), List.length_set, Nat.sub_self]
    rfl
  have hf : frz (.c st.length) (st.set r (rdC xs N) ++ [Cell.dT kvs]) = .ok (.d (.dT ds)) (st.set r (rdC xs N) ++ [.fz (.dT ds)]) := by
    unfold frz
    simp only [hg]
    show (match (pairsD kvs).map D.dT with | some d => Res.ok (A.d d) ((st.set r (rdC xs N) ++ [Cell.dT kvs]).set st.length (.fz d)) | none => .no) = _
    rw [hd]
    show Res.ok _ _ = _
    rw [List.set_append_right _ _ (by rw [List.length_set]; exact Nat.le_refl _), List.length_set, Nat.sub_self]
    rfl
  rw [exitR_2, hf, bind_ok, need_pos]
  · rw [List.length_set, List.take_left' (by rw [List.length_set])]
  · refine ⟨⟨by rw [List.length_append, List.length_set, List.length_set]; omega, fun i hi => ?_⟩, trivial⟩
    rw [List.length_set] at hi
    rw [List.getElem?_append_left (by rw [List.length_set]; exact hi)]
    by_cases z : r = i
    · subst z
      exact .inr ⟨_, List.getElem?_set_self hr, cb_rd _ _ _⟩
    · rw [List.getElem?_set_ne z, List.getElem?_set_ne z]; exact .inl rfl
theorem sub3_T {k : Nat} {st : Store} {xs : List (List Key × A)} {y : A} {kk : List Key} (h : st[k]? = some (.dT xs)) (hk : keysT y = some kk) (hl : xs.length < SZ) (v : A) (σ : Slots) : sub3 (.c k) y v σ st = some (σ, st.set k (.dT (putA xs kk v))) := by
  unfold sub3
  rw [show gSet (.c k) y v st = some (st.set k (.dT (putA xs kk v))) by
    unfold gSet
    simp only [h, hk]
    exact ifc_pos hl]
theorem sub3_Ks {k : Nat} {st : Store} {xs : List (Key × A)} {y : A} {kk : Key} (h : st[k]? = some (.dK xs)) (hk : keyA y = some kk) (hl : xs.length < SZ) (v : A) (σ : Slots) : sub3 (.c k) y v σ st = some (σ, st.set k (.dK (putA xs kk v))) := by
  unfold sub3
  rw [show gSet (.c k) y v st = some (st.set k (.dK (putA xs kk v))) by
    unfold gSet
    simp only [h, hk]
    exact ifc_pos hl]
abbrev kvT (ts : Cd.Things) : List (List Key × A) := ts.map fun q => (kP q.1, A.d (tD q.2))
theorem pairs_kvT : ∀ ts : Cd.Things, pairsD (kvT ts) = some (ts.map fun q => (kP q.1, tD q.2))
  | [] => rfl
  | q :: r => by rw [kvT, List.map_cons, pairsD, pairs_kvT r]; rfl
theorem wEnt_pos (q : Cd.Path × Cd.Thing) : 1 ≤ (Cd.wEnt q).length := by
  unfold Cd.wEnt Cd.wPath Cd.wL
  rw [List.length_append, List.length_append]
  have := Cd.wN_pos (q.1.map Cd.wName).length
  omega
theorem rd_things {ts : Cd.Things} (h : ∀ q ∈ ts, PaO q.1 ∧ ThO q.2) (nd : (ts.map (·.1)).Nodup) : Rds m_Reader_read_things (Cd.wL (ts.map Cd.wEnt)) (thD ts) := fun st r n xs rest hr hs hd => by
  obtain ⟨c1, c2, c3, c4, c5⟩ := lie_count Cd.wEnt (fun m _ => wEnt_pos m) hs hd
  have hL : ∀ N, (st.set r (rdC xs N)).length = st.length := fun N => List.length_set ..
  have g0 : ∀ N c, (st.set r (rdC xs N) ++ [c])[r]? = some (rdC xs N) := fun N c => base_get (rd_get hr N) _
  have g1 : ∀ N c, (st.set r (rdC xs N) ++ [c])[st.length]? = some c := fun N c => by
    rw [List.getElem?_append_right (by rw [List.length_set]; exact Nat.le_refl _), List.length_set, Nat.sub_self]
    rfl
  have g2 : ∀ N c c2, (st.set r (rdC xs N) ++ [c]).set st.length c2 = st.set r (rdC xs N) ++ [c2] := fun N c c2 => by
    rw [List.set_append_right _ _ (by rw [List.length_set]; exact Nat.le_refl _), List.length_set, Nat.sub_self]
    rfl
  have e1 : m_Reader_read_count [.c r] (st.set r (rdC xs n) ++ [.dT []]) = .ok (.d (.int (ts.length : Nat))) (st.set r (rdC xs (n + (Cd.wN ts.length).length)) ++ [.dT []]) := by
    have := x_read_count (st := st ++ [.dT []]) (r := r) (by rw [List.length_append]; omega) c1 c3 c4
    rw [List.set_append_left _ _ hr, List.set_append_left _ _ hr] at this
    exact this
  have d1 := mDNewT_ap (σ := [some (.c r), none, none, none]) (st := st.set r (rdC xs n))
  rw [hL] at d1
  unfold m_Reader_read_things b_Reader_read_things
  have x1 := fun N => exit2_rdT (n := n) (N := N) (xs := xs) hr (pairs_kvT ts)
  clear hd
  walk_at "ev*"
  generalize ho : forA _ _ _ _ _ _ = o
  obtain ⟨σ1, st1, rfl, y2, y3, rfl, rfl⟩ := forR_nx (n := ts.length) ho (fun i σ t => ∃ (y2 y3 : Option A), σ = [some (.c r), some (.c st.length), y2, y3] ∧ t = st.set r (rdC xs (n + (Cd.wN ts.length).length + ((ts.take i).map Cd.wEnt).flatten.length)) ++ [.dT (kvT (ts.take i))])
    ⟨_, _, rfl, rfl⟩ (fun _ _ _ _ _ => trivial) (fun i σ t hi ⟨y2, y3, q1, q2⟩ => by
      subst q1 q2
      obtain ⟨q, hq⟩ : ∃ q, ts[i]? = some q := ⟨_, List.getElem?_eq_getElem hi⟩
      have hm := List.mem_of_getElem? hq
      obtain ⟨rest', hd⟩ := c5 i q hq
      rw [show Cd.wEnt q = Cd.wPath q.1 ++ Cd.wThing q.2 from rfl, List.append_assoc] at hd
      have e2 := rds_app (rd_path (h q hm).1) hr hs hd [.dT (kvT (ts.take i))]
      have e3 := rds_app (rd_thing (h q hm).2) hr hs (drop_app hd) [.dT (kvT (ts.take i))]
      have e4' := putA_take kP kP_inj (fun t => A.d (tD t)) nd hq
      have e5 := keysT_pD q.1
      have l1 : (kvT (ts.take i)).length < SZ := by rw [List.length_map, List.length_take]; unfold SZ; omega
      have e6 := fun N v σ => sub3_T (g1 N (.dT (kvT (ts.take i)))) e5 l1 v σ
      refine nxt_of (σ := [some (.c r), some (.c st.length), some (.d (.int (0 + (i : Nat)))), some (.d (pD q.1))]) (st := st.set r (rdC xs (n + (Cd.wN ts.length).length + ((ts.take (i + 1)).map Cd.wEnt).flatten.length)) ++ [.dT (kvT (ts.take (i + 1)))]) ?_ ⟨_, _, rfl, rfl⟩
      rw [flat_succ Cd.wEnt hq, show (Cd.wEnt q).length = (Cd.wPath q.1).length + (Cd.wThing q.2).length from List.length_append, ← Nat.add_assoc, ← Nat.add_assoc]
      have e4 : putA (kvT (ts.take i)) (kP q.1) (.d (tD q.2)) = kvT (ts.take (i + 1)) := e4'
      clear e4'
      clear ho e1 d1 x1 c1 c2 c3 c4 c5 hd hs hi hm hq h nd hL hr
      generalize n + (Cd.wN ts.length).length + ((ts.take i).map Cd.wEnt).flatten.length = N1 at *
      generalize N1 + (Cd.wPath q.1).length + (Cd.wThing q.2).length = N3 at *
      generalize N1 + (Cd.wPath q.1).length = N2 at *
      generalize kvT (ts.take i) = Z1 at *
      generalize kvT (ts.take (i + 1)) = Z2 at *
      generalize st.length = q0 at *
      walk_at "ev*")
  have e8 := lie_end (n := n) Cd.wEnt ts
  rw [e8, List.take_of_length_le (Nat.le_refl _)]
  clear ho c5 g0 g1 g2 e1 d1
  walk_at "ev*"
end
end Lw
namespace Lw
open PySem PySem.Spec PyProof.Rows L2 Am
section
variable {P : Program} {w : World} {K : PySem.W.Frag} {mg : Str → Option Value} {base : Heap}
abbrev kvS (ss : Snaps) : List (Key × A) := ss.map fun q => ((.inr q.1 : Key), A.d (thD q.2))
theorem pairs_kvS : ∀ ss : Snaps, pairsD (kvS ss) = some (ss.map fun q => ((.inr q.1 : Key), thD q.2))
  | [] => rfl
  | q :: r => by rw [kvS, List.map_cons, pairsD, pairs_kvS r]; rfl
def wSn (q : Str × Cd.Things) : List Nat := Cd.wName q.1 ++ Cd.wL (q.2.map Cd.wEnt)
theorem wSn_pos (q : Str × Cd.Things) : 1 ≤ (wSn q).length := by
  unfold wSn
  rw [List.length_append]
  have := wName_pos q.1
  omega
section
variable {S : Store} {L : Nat}
theorem c3_0 (hL : S.length = L) (a b c : Cell) : (S ++ [a, b, c])[L]? = some a := by subst hL; exact loc_get0 _ _
theorem c3_2 (hL : S.length = L) (a b c : Cell) : (S ++ [a, b, c])[L + 2]? = some c := by
  subst hL
  rw [List.getElem?_append_right (by omega), show S.length + 2 - S.length = 2 by omega]
  rfl
theorem c3_s0 (hL : S.length = L) (a b c d : Cell) : (S ++ [a, b, c]).set L d = S ++ [d, b, c] := by subst hL; exact loc_set0 _ _ _
theorem c3_s2 (hL : S.length = L) (a b c d : Cell) : (S ++ [a, b, c]).set (L + 2) d = S ++ [a, b, d] := by
  subst hL
  rw [List.set_append_right _ _ (by omega), show S.length + 2 - S.length = 2 by omega]
  rfl
theorem x_state_init (hL : S.length = L) : m_State___init__ [.c L, .d (.int 9), .d (.int 64)] (S ++ [.ins "State" []]) = .ok (.d .non) (S ++ [.ins "State" (F_State (.d (.int 9)) (.d (.int 64)) (.d (.dT [])) (.c (L + 2))), .fz (.dT []), .dK []]) := by
  subst hL
  have d1 := fun σ st => mDNewT_ap (σ := σ) (st := st)
  have d2 := fun σ st => mDNewK_ap (σ := σ) (st := st)
  have f1 : ∀ a : Cell, frz (.c (S.length + 1)) (S ++ [a, .dT []]) = .ok (.d (.dT [])) (S ++ [a, .fz (.dT [])]) := fun a => by
    have hg : (S ++ [a, Cell.dT []])[S.length + 1]? = some (.dT []) := by
      rw [List.getElem?_append_right (by omega), show S.length + 1 - S.length = 1 by omega]
      rfl
    unfold frz
    simp only [hg]
    show Res.ok _ ((S ++ [a, Cell.dT []]).set (S.length + 1) _) = _
    rw [List.set_append_right _ _ (by omega), show S.length + 1 - S.length = 1 by omega]
    rfl
  have n0 := fn_State_0
  have n1 := fn_State_1
  have n2 := fn_State_2
  have n3 := fn_State_3
  unfold m_State___init__ b_State___init__
  walk_at "ev*"
theorem x_frz2 (hL : S.length = L) (ts : Cd.Things) (ss : Snaps) (b : Cell) : frz2 (.c L) (S ++ [.ins "State" (F_State (.d (.int 9)) (.d (.int 64)) (.d (thD ts)) (.c (L + 2))), b, .dK (kvS ss)]) = .ok (.d (stD ts ss)) (S ++ [.fz (stD ts ss), b, .fz (snD ss)]) := by
  have h0 := c3_0 hL
  have h2 := c3_2 hL
  have hf : frz (.c (L + 2)) (S ++ [.ins "State" (F_State (.d (.int 9)) (.d (.int 64)) (.d (thD ts)) (.c (L + 2))), b, .dK (kvS ss)]) = .ok (.d (snD ss)) (S ++ [.ins "State" (F_State (.d (.int 9)) (.d (.int 64)) (.d (thD ts)) (.c (L + 2))), b, .fz (snD ss)]) := by
    unfold frz
    simp only [h2]
    show (match (pairsD (kvS ss)).map D.dK with | some d => Res.ok (A.d d) ((S ++ _).set (L + 2) (.fz d)) | none => .no) = _
    rw [pairs_kvS]
    show Res.ok _ _ = _
    rw [c3_s2 hL]
  unfold frz2
  simp only [h0]
  rw [show frzs (F_State (.d (.int 9)) (.d (.int 64)) (.d (thD ts)) (.c (L + 2))) (S ++ [.ins "State" (F_State (.d (.int 9)) (.d (.int 64)) (.d (thD ts)) (.c (L + 2))), b, .dK (kvS ss)]) = some ((([("stripes", .int 9), ("block", .int 64), ("things", thD ts), ("snapshots", snD ss)] : List (Str × D))), S ++ [.ins "State" (F_State (.d (.int 9)) (.d (.int 64)) (.d (thD ts)) (.c (L + 2))), b, .fz (snD ss)]) by
    unfold F_State
    unfold F_State at hf
    simp only [frzs, frz_d, hf, Option.map_some]]
  simp only []
  rw [ifc_pos (c3_0 hL _ _ _), c3_s0 hL]
  rfl
end
theorem rd_image {c : Nat} {ts : Cd.Things} {ss : Snaps} (hc : c < Cd.N70) (h1 : ∀ q ∈ ts, PaO q.1 ∧ ThO q.2) (nd1 : (ts.map (·.1)).Nodup) (h2 : ∀ s ∈ ss, NmO s.1 ∧ (∀ q ∈ s.2, PaO q.1 ∧ ThO q.2) ∧ (s.2.map (·.1)).Nodup) (nd2 : (ss.map (·.1)).Nodup)
    {st : Store} {r n : Nat} {xs rest : List Nat} (hr : r < st.length) (hs : xs.length ≤ SZ) (hd : xs.drop n = Cd.wN c ++ (Cd.wL (ts.map Cd.wEnt) ++ (Cd.wL (ss.map wSn) ++ rest))) :
    ∃ J, m_Reader_read_image [.c r, .d (.int 9), .d (.int 64)] (st.set r (rdC xs n)) = .ok (.d (.tup [iN c, stD ts ss])) (st.set r (rdC xs (n + (Cd.wN c).length + (Cd.wL (ts.map Cd.wEnt)).length + (Cd.wL (ss.map wSn)).length)) ++ J) := by
  refine ⟨[.fz (stD ts ss), .fz (.dT []), .fz (snD ss)], ?_⟩
  have hd1 := drop_app hd
  have hd2 := drop_app hd1
  obtain ⟨c1, c2, c3, c4, c5⟩ := lie_count wSn (fun m _ => wSn_pos m) hs hd2
  have hL : ∀ N, (st.set r (rdC xs N)).length = st.length := fun N => List.length_set ..
  have g00 := fun N => rd_get (xs := xs) hr N
  have g0 : ∀ N J, (st.set r (rdC xs N) ++ J)[r]? = some (rdC xs N) := fun N J => base_get (rd_get hr N) _
  have g1 := fun N => c3_0 (hL N)
  have g2 := fun N => c3_2 (hL N)
  have g3 := fun N => c3_s0 (hL N)
  have g4 := fun N => c3_s2 (hL N)
  have e0 : m_Reader_read_number [.c r] (st.set r (rdC xs n)) = Res.ok (.d (iN c)) _ := rd_number hc st r n xs _ hr hs hd
  have e1 := fun N => x_state_init (hL N)
  have e2 := rds_app (rd_things h1 nd1) hr hs hd1
  have e3 : ∀ J, m_Reader_read_count [.c r] (st.set r (rdC xs (n + (Cd.wN c).length + (Cd.wL (ts.map Cd.wEnt)).length)) ++ J) = .ok (.d (.int (ss.length : Nat))) (st.set r (rdC xs (n + (Cd.wN c).length + (Cd.wL (ts.map Cd.wEnt)).length + (Cd.wN ss.length).length)) ++ J) := fun J => by
    have := x_read_count (st := st ++ J) (r := r) (by rw [List.length_append]; omega) c1 c3 c4
    rw [List.set_append_left _ _ hr, List.set_append_left _ _ hr] at this
    exact this
  have e4 := fun N => x_frz2 (hL N) ts ss (.fz (.dT []))
  have e5 : ∀ f σ s, mFrz2 f σ s = (f σ s).bind frz2 := fun _ _ _ => rfl
  have w2 := fw_State_2
  have e8 := lie_end (n := n + (Cd.wN c).length + (Cd.wL (ts.map Cd.wEnt)).length) wSn ss
  unfold m_Reader_read_image b_Reader_read_image
  clear hd hd1 hd2
  generalize hN2 : n + (Cd.wN c).length + (Cd.wL (ts.map Cd.wEnt)).length = N2 at *
  generalize hN1 : n + (Cd.wN c).length = N1 at *
  walk_at "ev*"
  generalize ho : forA _ _ _ _ _ _ = o
  obtain ⟨σ1, st1, rfl, y5, y6, rfl, rfl⟩ := forR_nx (n := ss.length) ho (fun i σ t => ∃ (y5 y6 : Option A), σ = [some (.c r), some (.d (.int 9)), some (.d (.int 64)), some (.d (iN c)), some (.c st.length), y5, y6] ∧ t = st.set r (rdC xs (N2 + (Cd.wN ss.length).length + ((ss.take i).map wSn).flatten.length)) ++ [.ins "State" (F_State (.d (.int 9)) (.d (.int 64)) (.d (thD ts)) (.c (st.length + 2))), .fz (.dT []), .dK (kvS (ss.take i))])
    ⟨_, _, rfl, rfl⟩ (fun _ _ _ _ _ => trivial) (fun i σ t hi ⟨y5, y6, q1, q2⟩ => by
      subst q1 q2
      obtain ⟨q, hq⟩ : ∃ q, ss[i]? = some q := ⟨_, List.getElem?_eq_getElem hi⟩
      have hm := List.mem_of_getElem? hq
      obtain ⟨rest', hd⟩ := c5 i q hq
      obtain ⟨s1, s2, s3⟩ := h2 q hm
      rw [show wSn q = Cd.wName q.1 ++ Cd.wL (q.2.map Cd.wEnt) from rfl, List.append_assoc] at hd
      have f2 := rds_app (rd_name s1) hr hs hd
      have f3 := rds_app (rd_things s2 s3) hr hs (drop_app hd)
      have f4 : putA (kvS (ss.take i)) (.inr q.1) (.d (thD q.2)) = kvS (ss.take (i + 1)) := putA_take (κ' := Key) Sum.inr inr_inj (fun t => A.d (thD t)) nd2 hq
      have l1 : (kvS (ss.take i)).length < SZ := by
        rw [List.length_map, List.length_take]
        unfold SZ
        omega
      have f6 := fun N a b v σ => sub3_Ks (y := .d (.str q.1)) (g2 N a b (.dK (kvS (ss.take i)))) rfl l1 v σ
      refine nxt_of (σ := [some (.c r), some (.d (.int 9)), some (.d (.int 64)), some (.d (iN c)), some (.c st.length), some (.d (.int (0 + (i : Nat)))), some (.d (.str q.1))]) (st := st.set r (rdC xs (N2 + (Cd.wN ss.length).length + ((ss.take (i + 1)).map wSn).flatten.length)) ++ [.ins "State" (F_State (.d (.int 9)) (.d (.int 64)) (.d (thD ts)) (.c (st.length + 2))), .fz (.dT []), .dK (kvS (ss.take (i + 1)))]) ?_ ⟨_, _, rfl, rfl⟩
      rw [flat_succ wSn hq, show (wSn q).length = (Cd.wName q.1).length + (Cd.wL (q.2.map Cd.wEnt)).length from List.length_append, ← Nat.add_assoc, ← Nat.add_assoc]
      clear ho e0 e1 e2 e3 e4 e5 e8 c1 c2 c3 c4 c5 hd hs hi hm hq h1 h2 nd1 nd2 hL hr s1 s2 s3 hN2 hN1 g00 w2
      generalize N2 + (Cd.wN ss.length).length + ((ss.take i).map wSn).flatten.length = M1 at *
      generalize M1 + (Cd.wName q.1).length + (Cd.wL (q.2.map Cd.wEnt)).length = M3 at *
      generalize M1 + (Cd.wName q.1).length = M2 at *
      generalize kvS (ss.take i) = Z1 at *
      generalize kvS (ss.take (i + 1)) = Z2 at *
      generalize st.length = q0 at *
      walk_at "ev*")
  rw [e8, List.take_of_length_le (Nat.le_refl _)]
  clear ho c5 g0 g1 g2 e1
  walk_at "ev*"
end
end Lw
namespace Lw
open PySem PySem.Spec PyProof.Rows L2 Am
section
variable {P : Program} {w : World} {K : PySem.W.Frag} {mg : Str → Option Value} {base : Heap}
abbrev scrI (ns : List Int) : D := .scr (ns.map D.int)
/-- the draws' state -/
def NS (c : Cell) : Prop := ∃ (scr : List Int) (i b z : Nat), c = .lst [.d (.list (scr.map D.int)), .d (.int i), .d (.int b), .d (.int z)] ∧ scr.length ≤ 63
theorem natmod (x : Int) {L : Nat} (h : 0 < L) : ∃ v : Nat, x % (L : Int) = (v : Int) ∧ v < L := by
  have h1 := Int.emod_nonneg x (show (L : Int) ≠ 0 by omega)
  have h2 := Int.emod_lt_of_pos x (show (0 : Int) < (L : Int) by omega)
  exact ⟨(x % (L : Int)).toNat, by omega, by omega⟩
theorem natdiv {x : Int} (hx : 0 ≤ x) (L : Nat) : ∃ v : Nat, x / (L : Int) = (v : Int) := by
  have h1 := Int.ediv_nonneg hx (show (0 : Int) ≤ (L : Int) by omega)
  exact ⟨(x / (L : Int)).toNat, by omega⟩
theorem x_nextW {q L : Nat} {st : Store} {c : Cell} (h : st[q]? = some c) (hc : NS c) (hL : 0 < L) (hL2 : CDivA 0 (L : Int)) : ∃ (v : Nat) (c' : Cell), v < L ∧ NS c' ∧ m__law_next [.c q, .d (.int L)] st = .ok (.d (.int v)) (st.set q c') := by
  obtain ⟨scr, i, b, z, rfl, hs⟩ := hc
  have lq := RelS.lt h
  have hcd : ∀ x : Int, CDivA x (L : Int) := fun x => hL2.imp id id
  have e18 : ((10 : Int) ^ Int.toNat 18) = 1000000000000000000 := by decide
  have t0 : decide (((0 : Nat) : Int) = 0) = true := rfl
  have hp : CPow 10 18 := ⟨by decide, by decide, by decide⟩
  have n1 := ix4_1
  have n2 := ix4_2
  have n3 := ix4_3
  have s3 := @sub3_c
  have s4 := @subC_l
  have z1 : ∀ k : Nat, (0 : Int) ≤ ((k : Nat) : Int) := fun k => by omega
  by_cases c1 : b = 0 ∧ i < scr.length
  · obtain ⟨rfl, hi⟩ := c1
    obtain ⟨x, hx⟩ : ∃ x, scr[i]? = some x := ⟨_, List.getElem?_eq_getElem hi⟩
    have ei : atI ((scr.map D.int).map A.d) (i : Int) = some (.d (.int x)) := atI_nat (by rw [List.getElem?_map, List.getElem?_map, hx]; rfl)
    have t1 : decide ((i : Int) < (scr.length : Int)) = true := decide_eq_true (by omega)
    by_cases c2 : (1000000000000000000 : Int) ≤ x
    · have t2 : decide ((1000000000000000000 : Int) ≤ x) = true := decide_eq_true c2
      have t3 : decide ((0 : Int) < x) = true := decide_eq_true (by omega)
      obtain ⟨v, e1, hv⟩ := natmod x hL
      obtain ⟨d, e2⟩ := natdiv (show 0 ≤ x by omega) L
      refine ⟨v, .lst [.d (.list (scr.map D.int)), .d (.int ((i + 1 : Nat) : Int)), .d (.int d), .d (.int z)], hv, ⟨scr, i + 1, d, z, rfl, hs⟩, ?_⟩
      unfold m__law_next b__law_next
      walk_at "ev*"
      rfl
    · have t2 : decide ((1000000000000000000 : Int) ≤ x) = false := decide_eq_false c2
      have t3 : decide ((0 : Int) < ((0 : Nat) : Int)) = false := rfl
      obtain ⟨z1, e1, _⟩ := natmod ((z : Int) * 48271 + x % 2147483647 + 7) (show 0 < 2147483647 by decide)
      have e1 : ((z : Int) * 48271 + x % 2147483647 + 7) % 2147483647 = (z1 : Int) := e1
      obtain ⟨z2, e2, _⟩ := natmod ((z1 : Int) * 69621 + 12345) (show 0 < 2147483647 by decide)
      have e2 : ((z1 : Int) * 69621 + 12345) % 2147483647 = (z2 : Int) := e2
      obtain ⟨v, e3, hv⟩ := natmod ((z2 : Int) / 7) hL
      refine ⟨v, .lst [.d (.list (scr.map D.int)), .d (.int ((i + 1 : Nat) : Int)), .d (.int ((0 : Nat) : Int)), .d (.int z2)], hv, ⟨scr, i + 1, 0, z2, rfl, hs⟩, ?_⟩
      unfold m__law_next b__law_next
      walk_at "ev*"
      rfl
  · have t1 : (decide ((b : Int) = 0) && decide ((i : Int) < (scr.length : Int))) = false := by
      by_cases hb : b = 0
      · rw [decide_eq_true (by omega), decide_eq_false (by have := fun h => c1 ⟨hb, h⟩; omega)]; rfl
      · rw [decide_eq_false (by omega)]; rfl
    have t1' : ∀ (g : Bool), (andR (.ok g st) (fun _ st => .ok (decide ((i : Int) < (scr.length : Int))) st) ([] : Slots)) = .ok (g && decide ((i : Int) < (scr.length : Int))) st := fun g => by cases g <;> rfl
    have ha : ∀ (t : MT) (σ : Slots), t σ st = .ok (decide ((i : Int) < (scr.length : Int))) st → andR (.ok (decide ((b : Int) = 0)) st) t σ = .ok false st := fun t σ ht => by
      by_cases hb : (b : Int) = 0
      · rw [decide_eq_true hb] at t1 ⊢
        rw [andR_t, ht]
        exact congrArg (fun z => Res.ok z st) (by simpa using t1)
      · rw [decide_eq_false hb]; rfl
    clear t1'
    by_cases c2 : 0 < b
    · have t3 : decide ((0 : Int) < (b : Int)) = true := decide_eq_true (by omega)
      obtain ⟨v, e1, hv⟩ := natmod (b : Int) hL
      obtain ⟨d, e2⟩ := natdiv (show (0 : Int) ≤ b by omega) L
      refine ⟨v, .lst [.d (.list (scr.map D.int)), .d (.int i), .d (.int d), .d (.int z)], hv, ⟨scr, i, d, z, rfl, hs⟩, ?_⟩
      unfold m__law_next b__law_next
      walk_at "ev*"
      rw [ha _ _ (by walk_at "ev*")]
      walk_at "ev*"
    · have t3 : decide ((0 : Int) < (b : Int)) = false := decide_eq_false (by omega)
      obtain ⟨z2, e2, _⟩ := natmod ((z : Int) * 69621 + 12345) (show 0 < 2147483647 by decide)
      have e2 : ((z : Int) * 69621 + 12345) % 2147483647 = (z2 : Int) := e2
      obtain ⟨v, e3, hv⟩ := natmod ((z2 : Int) / 7) hL
      refine ⟨v, .lst [.d (.list (scr.map D.int)), .d (.int i), .d (.int b), .d (.int z2)], hv, ⟨scr, i, b, z2, rfl, hs⟩, ?_⟩
      unfold m__law_next b__law_next
      walk_at "ev*"
      rw [ha _ _ (by walk_at "ev*")]
      walk_at "ev*"
theorem x_next {q L : Nat} {st : Store} {c : Cell} (h : st[q]? = some c) (hc : NS c) (hL : 0 < L) (hL2 : L < 1073741824) : ∃ (v : Nat) (c' : Cell), v < L ∧ NS c' ∧ m__law_next [.c q, .d (.int L)] st = .ok (.d (.int v)) (st.set q c') := x_nextW h hc hL (.inl ⟨by omega, by omega⟩)
/-- data of some depth that _law_same compares -/
def Sm : Nat → D → Prop
  | 0, _ => False
  | _ + 1, .non => True
  | _ + 1, .bl _ => True
  | _ + 1, .int _ => True
  | _ + 1, .str x => PyData.canLay0 (.str x) = true
  | n + 1, .list ds => ds.length ≤ 1000000 ∧ ∀ d ∈ ds, Sm n d
  | n + 1, .tup ds => ds.length ≤ 1000000 ∧ ∀ d ∈ ds, Sm n d
  | _ + 1, _ => False
theorem gIsi_t {x : D} {ty t : String} {b : Bool} (st : Store) (h : tyD x = some ty) (h2 : kitB ty t = some b) : gIsi t (.d x) st = .ok (.d (.bl b)) st := by
  unfold gIsi
  rw [show tyA st (.d x) = tyD x from rfl, h, Option.bind_some, h2]
theorem kbs : kitB "bool" "bool" = some true ∧ kitB "int" "bool" = some false ∧ kitB "int" "int" = some true ∧ kitB "str" "bool" = some false ∧ kitB "str" "int" = some false ∧ kitB "str" "str" = some true ∧
    kitB "list" "bool" = some false ∧ kitB "list" "int" = some false ∧ kitB "list" "str" = some false ∧ kitB "list" "tuple" = some false ∧ kitB "list" "list" = some true ∧
    kitB "tuple" "bool" = some false ∧ kitB "tuple" "int" = some false ∧ kitB "tuple" "str" = some false ∧ kitB "tuple" "tuple" = some true ∧ kitB "tuple" "list" = some false := by decide +kernel
theorem x_same : ∀ (n : Nat) (e : D) (st : Store), Sm n e → r__law_same n [.d e, .d e] st = .ok (.d (.bl true)) st
  | 0, _, _, h => h.elim
  | n + 1, e, st, h => by
    obtain ⟨k1, k2, k3, k4, k5, k6, k7, k8, k9, k10, k11, k12, k13, k14, k15, k16⟩ := kbs
    have dii : ∀ i : Int, decide (i = i) = true := fun _ => decide_eq_true rfl
    have dib : ∀ i : Bool, decide (i = i) = true := fun _ => decide_eq_true rfl
    have dne : ∀ i : Int, decide (i ≠ i) = false := fun i => decide_eq_false fun z => z rfl
    unfold r__law_same b__law_same
    cases e with
    | non =>
      have g := gIs_n (st := st) false
      walk_at "ev*"
    | bl b =>
      have g := gIs_d (st := st) (x := .bl b) false (fun z => nomatch z)
      have g1 := gIsi_t (x := .bl b) st rfl k1
      clear k1 k2 k3 k4 k5 k6 k7 k8 k9 k10 k11 k12 k13 k14 k15 k16
      walk_at "ev*"
    | int b =>
      have g := gIs_d (st := st) (x := .int b) false (fun z => nomatch z)
      have g1 := gIsi_t (x := .int b) st rfl k2
      have g2 := gIsi_t (x := .int b) st rfl k3
      clear k1 k2 k3 k4 k5 k6 k7 k8 k9 k10 k11 k12 k13 k14 k15 k16
      walk_at "ev*"
    | str x =>
      have g := gIs_d (st := st) (x := .str x) false (fun z => nomatch z)
      have g1 := gIsi_t (x := .str x) st rfl k4
      have g2 := gIsi_t (x := .str x) st rfl k5
      have g3 := gIsi_t (x := .str x) st rfl k6
      have g4 := gEq_same (n := 0) (x := .str x) (y := .str x) st (Pl.str 0 h) false rfl
      clear k1 k2 k3 k4 k5 k6 k7 k8 k9 k10 k11 k12 k13 k14 k15 k16
      walk_at "ev*"
    | list ds =>
      obtain ⟨hl, hd⟩ := h
      have g := gIs_d (st := st) (x := .list ds) false (fun z => nomatch z)
      have g1 := gIsi_t (x := .list ds) st rfl k7
      have g2 := gIsi_t (x := .list ds) st rfl k8
      have g3 := gIsi_t (x := .list ds) st rfl k9
      have g4 := gIsi_t (x := .list ds) st rfl k10
      have g5 := gIsi_t (x := .list ds) st rfl k11
      clear k1 k2 k3 k4 k5 k6 k7 k8 k9 k10 k11 k12 k13 k14 k15 k16
      walk_at "ev*"
      generalize ho : forA _ _ _ _ _ _ = o
      obtain ⟨σ1, st1, rfl, y, rfl, rfl⟩ := forR_nx ho (fun i σ s => ∃ y : Option A, σ = [some (.d (.list ds)), some (.d (.list ds)), y] ∧ s = st) ⟨_, rfl, rfl⟩ (fun _ _ _ _ _ => trivial) (fun i σ s hi ⟨y, e1, e2⟩ => by
        subst e1 e2
        rw [show (0 : Int) + (i : Int) = (i : Int) by omega]
        obtain ⟨d, hx⟩ : ∃ d, ds[i]? = some d := ⟨_, List.getElem?_eq_getElem hi⟩
        have ei : atI (ds.map A.d) (i : Int) = some (.d d) := atI_nat (by rw [List.getElem?_map, hx]; rfl)
        have es := x_same n d s (hd d (List.mem_of_getElem? hx))
        walk_at "ev*"
        exact ⟨_, rfl, trivial⟩)
      walk_at "ev*"
    | tup ds =>
      obtain ⟨hl, hd⟩ := h
      have g := gIs_d (st := st) (x := .tup ds) false (fun z => nomatch z)
      have g1 := gIsi_t (x := .tup ds) st rfl k12
      have g2 := gIsi_t (x := .tup ds) st rfl k13
      have g3 := gIsi_t (x := .tup ds) st rfl k14
      have g4 := gIsi_t (x := .tup ds) st rfl k15
      have g5 := gIsi_t (x := .tup ds) st rfl k16
      clear k1 k2 k3 k4 k5 k6 k7 k8 k9 k10 k11 k12 k13 k14 k15 k16
      walk_at "ev*"
      generalize ho : forA _ _ _ _ _ _ = o
      obtain ⟨σ1, st1, rfl, y, rfl, rfl⟩ := forR_nx ho (fun i σ s => ∃ y : Option A, σ = [some (.d (.tup ds)), some (.d (.tup ds)), y] ∧ s = st) ⟨_, rfl, rfl⟩ (fun _ _ _ _ _ => trivial) (fun i σ s hi ⟨y, e1, e2⟩ => by
        subst e1 e2
        rw [show (0 : Int) + (i : Int) = (i : Int) by omega]
        obtain ⟨d, hx⟩ : ∃ d, ds[i]? = some d := ⟨_, List.getElem?_eq_getElem hi⟩
        have ei : atI ds (i : Int) = some d := atI_nat hx
        have es := x_same n d s (hd d (List.mem_of_getElem? hx))
        walk_at "ev*"
        exact ⟨_, rfl, trivial⟩)
      walk_at "ev*"
    | _ => exact h.elim
end
end Lw
namespace Lw
open PySem PySem.Spec PyProof.Rows L2 Am
section
variable {P : Program} {w : World} {K : PySem.W.Frag} {mg : Str → Option Value} {base : Heap}
theorem x_rinit {S : Store} {L : Nat} (hL : S.length = L) {xs : List Nat} (hs : xs.length ≤ SZ) : m_Reader___init__ [.c L, .d (bL xs)] (S ++ [.ins "Reader" []]) = .ok (.d .non) (S ++ [rdC xs 0]) := by
  subst hL
  have n0 := fn_Reader_0
  have n1 := fn_Reader_1
  have s1 : ((xs.map iN).map A.d).length ≤ SZ := by rw [List.length_map, List.length_map]; exact hs
  unfold m_Reader___init__ b_Reader___init__
  walk_at "ev*"
  rfl
section
variable {r n : Nat} {st : Store} {xs : List Nat}
theorem x_end_no (hr : r < st.length) (hn : xs.length = n) : m_Reader_end [.c r] (st.set r (rdC xs n)) = .ok (.d .non) (st.set r (rdC xs n)) := by
  have g0 := rd_get (xs := xs) hr n
  have d1 : decide ((n : Int) < (xs.length : Int)) = false := decide_eq_false (by omega)
  unfold m_Reader_end b_Reader_end
  clear hn
  walk_at "ev*"
theorem x_end_ex (hr : r < st.length) (hn : n < xs.length) : m_Reader_end [.c r] (st.set r (rdC xs n)) = .ex ⟨"DamagedData", none⟩ (st.set r (rdC xs n)) := by
  have g0 := rd_get (xs := xs) hr n
  have d1 : decide ((n : Int) < (xs.length : Int)) = true := decide_eq_true (by omega)
  unfold m_Reader_end b_Reader_end
  clear hn
  walk_at "ev*"
theorem asO_ex {isE : Str → Str → Option Bool} {y : Str} {j : Nat} {b : MS} {s : Exn → MS} {σ σ1 : Slots} {S S1 : Store} {x : Exn} (h : b σ S = .ex x σ1 S1) (he : isE x.cls y = some true) (hj : j < σ1.length) : mTryAs isE y j b s σ S = unAs j (s x (σ1.set j none) S1) := by
  unfold mTryAs
  simp only [h, he]
  rw [eq_true hj, needO_true]
theorem asO_nx {isE : Str → Str → Option Bool} {y : Str} {j : Nat} {b : MS} {s : Exn → MS} {σ σ1 : Slots} {S S1 : Store} (h : b σ S = .nx σ1 S1) : mTryAs isE y j b s σ S = .nx σ1 S1 := by
  unfold mTryAs
  simp only [h]
theorem isE_dr : isE "DamagedData" "RotError" = some true := by decide +kernel
theorem isK_dd : isK "DamagedData" "DamagedData" = some true := by decide +kernel
theorem isK_dv : isK "DamagedData" "ValueError" = some true := by decide +kernel
theorem mIsX_ap (y : Str) (σ : Slots) (S : Store) (h : isK "DamagedData" y = some true) : mIsX isK ⟨"DamagedData", none⟩ y σ S = .ok (.d (.bl true)) S := by
  unfold mIsX
  simp only [h]
theorem x_ends (hr : r < st.length) {tail : List Nat} (hn : n + tail.length = xs.length) : m__law_ends [.c r, .d (bL tail)] (st.set r (rdC xs n)) = .ok (.d (.bl true)) (st.set r (rdC xs n)) := by
  have g0 := rd_get (xs := xs) hr n
  by_cases z : tail.length = 0
  · have e1 := x_end_no (xs := xs) (n := n) hr (by omega)
    have hb : (mDo (mMeth "Reader" "end" m_Reader_end (mVar 0) mNil)) [some (.c r), some (.d (bL tail)), none] (st.set r (rdC xs n)) = .nx [some (.c r), some (.d (bL tail)), none] (st.set r (rdC xs n)) := by
      clear hn z
      walk_at "ev*"
    have ht := fun s => asO_nx (isE := isE) (y := "RotError") (j := 2) (s := s) hb
    have d1 : decide ((tail.length : Int) = 0) = true := decide_eq_true (by omega)
    clear hn z hb e1 g0 hr
    unfold m__law_ends b__law_ends
    generalize st.set r (rdC xs n) = S at *
    walk_at "ev*"
  · have e1 := x_end_ex (xs := xs) (n := n) hr (by omega)
    have hb : (mDo (mMeth "Reader" "end" m_Reader_end (mVar 0) mNil)) [some (.c r), some (.d (bL tail)), none] (st.set r (rdC xs n)) = .ex ⟨"DamagedData", none⟩ [some (.c r), some (.d (bL tail)), none] (st.set r (rdC xs n)) := by
      clear hn z
      walk_at "ev*"
    have ht := fun s => asO_ex (isE := isE) (y := "RotError") (j := 2) (s := s) hb isE_dr (by show 2 < 3; decide)
    have d1 : decide ((0 : Int) < (tail.length : Int)) = true := decide_eq_true (by omega)
    have i1 := fun σ S => mIsX_ap "DamagedData" σ S isK_dd
    have i2 := fun σ S => mIsX_ap "ValueError" σ S isK_dv
    have u : ∀ j a S, unAs j (.rt a S) = .rt a S := fun _ _ _ => rfl
    clear hn z hb e1 g0 hr
    unfold m__law_ends b__law_ends
    generalize st.set r (rdC xs n) = S at *
    walk_at "ev*"
end
/-- the law reads a thing of a form -/
def LR (f : Str) (w : List Nat) (d : D) : Prop := ∀ (st : Store) (r n : Nat) (xs rest : List Nat), r < st.length → xs.length ≤ SZ → xs.drop n = w ++ rest → m__law_read [.c r, .d (.str f)] (st.set r (rdC xs n)) = .ok (.d d) (st.set r (rdC xs (n + w.length)))
theorem lr_number {w : List Nat} {d : D} (h : Rds m_Reader_read_number w d) : LR "number" w d := fun st r n xs rest hr hs hd => by
  have e1 := h st r n xs rest hr hs hd
  have g0 := fun n => rd_get (xs := xs) hr n
  have s1 := fun st => ss_t st "number" (by decide +kernel)
  unfold m__law_read b__law_read
  clear hd
  walk_at "ev*"
theorem lr_path {w : List Nat} {d : D} (h : Rds m_Reader_read_path w d) : LR "path" w d := fun st r n xs rest hr hs hd => by
  have e1 := h st r n xs rest hr hs hd
  have g0 := fun n => rd_get (xs := xs) hr n
  have s1 := fun st => ss_t st "path" (by decide +kernel)
  have s2 := fun st => ss_f st "path" "number" (by decide +kernel) (by decide +kernel) (by decide)
  unfold m__law_read b__law_read
  clear hd
  walk_at "ev*"
theorem lr_record {w : List Nat} {d : D} (h : Rds m_Reader_read_record w d) : LR "record" w d := fun st r n xs rest hr hs hd => by
  have e1 := h st r n xs rest hr hs hd
  have g0 := fun n => rd_get (xs := xs) hr n
  have s1 := fun st => ss_t st "record" (by decide +kernel)
  have s2 := fun st => ss_f st "record" "number" (by decide +kernel) (by decide +kernel) (by decide)
  have s3 := fun st => ss_f st "record" "path" (by decide +kernel) (by decide +kernel) (by decide)
  unfold m__law_read b__law_read
  clear hd
  walk_at "ev*"
theorem lr_group {w : List Nat} {d : D} (h : Rds m_Reader_read_group w d) : LR "group" w d := fun st r n xs rest hr hs hd => by
  have e1 := h st r n xs rest hr hs hd
  have g0 := fun n => rd_get (xs := xs) hr n
  have s2 := fun st => ss_f st "group" "number" (by decide +kernel) (by decide +kernel) (by decide)
  have s3 := fun st => ss_f st "group" "path" (by decide +kernel) (by decide +kernel) (by decide)
  have s4 := fun st => ss_f st "group" "record" (by decide +kernel) (by decide +kernel) (by decide)
  unfold m__law_read b__law_read
  clear hd
  walk_at "ev*"
end
end Lw
namespace Lw
open PySem PySem.Spec PyProof.Rows L2 Am
section
variable {P : Program} {w : World} {K : PySem.W.Frag} {mg : Str → Option Value} {base : Heap}
theorem canLay_of {s : Str} (h : ∀ c ∈ Cd.codes s, c ∈ Cd.alpha) : PyData.canLay0 (.str s) = true := by
  rw [PyData.canLay0]
  show s.cps.all _ = true
  rw [← Array.all_toList]
  refine List.all_eq_true.mpr fun c hc => ?_
  have := al_lt (h c hc)
  exact decide_eq_true (by omega)
theorem x_asks {f : Str} {w tail : List Nat} {d : D} (hlr : LR f w d) (hsm : Sm 8 d) (hl : w.length + tail.length ≤ 1000000) (st : Store) : m__law_asks [.d (.str f), .d d, .d (bL w), .d (bL w), .d (bL tail)] st = .ok (.d (.bl true)) st := by
  have hd : (w ++ tail).drop 0 = w ++ tail := rfl
  have hs : (w ++ tail).length ≤ SZ := by rw [List.length_append]; unfold SZ; omega
  have sw : Sm 8 (bL w) := ⟨by rw [List.length_map]; omega, fun x hx => by
    obtain ⟨b, _, rfl⟩ := List.mem_map.mp hx
    trivial⟩
  have q1 : ∀ S, m__law_same [.d (bL w), .d (bL w)] S = .ok (.d (.bl true)) S := fun S => x_same 8 (bL w) S sw
  have q2 : ∀ S, m__law_same [.d (d), .d (d)] S = .ok (.d (.bl true)) S := fun S => x_same 8 d S hsm
  have q3 : ∀ S, m__law_same [.d (.int ((0 : Nat) : Int)), .d (.int 0)] S = .ok (.d (.bl true)) S := fun S => x_same 8 (.int 0) S trivial
  have q4 : ∀ S, m__law_same [.d (.int (w.length : Nat)), .d (.int (w.length : Nat))] S = .ok (.d (.bl true)) S := fun S => x_same 8 (.int (w.length : Nat)) S trivial
  have a1 := gAdd_bL w tail st (by unfold SZ; omega)
  have a2 := gAdd_bL w tail (st ++ [rdC (w ++ tail) w.length]) (by unfold SZ; omega)
  have i1 := x_rinit (S := st) rfl hs
  have hr : st.length < (st ++ [rdC (w ++ tail) 0]).length := by rw [List.length_append]; exact Nat.lt_succ_self _
  have e1 := hlr (st ++ [rdC (w ++ tail) 0]) st.length 0 (w ++ tail) tail hr hs hd
  simp only [loc_set0, List.set_cons_zero, Nat.zero_add] at e1
  have e2 := x_ends (n := w.length) (xs := w ++ tail) hr (tail := tail) (by rw [List.length_append])
  simp only [loc_set0, List.set_cons_zero] at e2
  have p1 : ∀ S, gEq false (.d (bL (w ++ tail))) (.d (bL (w ++ tail))) S = .ok (.d (.bl true)) S := fun S => gEq_same (n := 1) S (by
    intro x hx
    obtain ⟨b, _, rfl⟩ := List.mem_map.mp hx
    trivial) false rfl
  have g0 : ∀ n, (st ++ [rdC (w ++ tail) n])[st.length]? = some (rdC (w ++ tail) n) := fun n => loc_get0 _ _
  have x2 := fun L => exit2_d (.bl true) st L
  clear hd hs sw hr hsm hlr
  unfold m__law_asks b__law_asks
  generalize w ++ tail = W at *
  walk_at "ev*"
theorem sm_i (n : Nat) (i : Int) : Sm (n + 1) (.int i) := trivial
theorem sm_s (n : Nat) {s : Str} (h : NmO s) : Sm (n + 1) (.str s) := canLay_of h.2.2
theorem sm_p (n : Nat) {p : Cd.Path} (h : PaO p) : Sm (n + 2) (pD p) := ⟨by rw [List.length_map]; have := h.1; omega, fun d hd => by
  obtain ⟨s, hs, rfl⟩ := List.mem_map.mp hd
  exact sm_s n (h.2 s hs)⟩
theorem sm_2 {n : Nat} {a b : D} (h1 : Sm n a) (h2 : Sm n b) : Sm (n + 1) (.tup [a, b]) := ⟨by show 2 ≤ 1000000; decide, fun d hd => by
  rcases List.mem_cons.mp hd with rfl | hd
  · exact h1
  · rw [List.mem_singleton.mp hd]; exact h2⟩
theorem sm_3 {n : Nat} {a b c : D} (h1 : Sm n a) (h2 : Sm n b) (h3 : Sm n c) : Sm (n + 1) (.tup [a, b, c]) := ⟨by show 3 ≤ 1000000; decide, fun d hd => by
  rcases List.mem_cons.mp hd with rfl | hd
  · exact h1
  · rcases List.mem_cons.mp hd with rfl | hd
    · exact h2
    · rw [List.mem_singleton.mp hd]; exact h3⟩
theorem sm_4 {n : Nat} {a b c e : D} (h1 : Sm n a) (h2 : Sm n b) (h3 : Sm n c) (h4 : Sm n e) : Sm (n + 1) (.tup [a, b, c, e]) := ⟨by show 4 ≤ 1000000; decide, fun d hd => by
  rcases List.mem_cons.mp hd with rfl | hd
  · exact h1
  · rcases List.mem_cons.mp hd with rfl | hd
    · exact h2
    · rcases List.mem_cons.mp hd with rfl | hd
      · exact h3
      · rw [List.mem_singleton.mp hd]; exact h4⟩
theorem sm_t {α : Type} {n : Nat} {f : α → D} {xs : List α} (hl : xs.length ≤ 1000000) (h : ∀ x ∈ xs, Sm n (f x)) : Sm (n + 1) (.tup (xs.map f)) := ⟨by rw [List.length_map]; exact hl, fun d hd => by
  obtain ⟨x, hx, rfl⟩ := List.mem_map.mp hd
  exact h x hx⟩
theorem sm_l {α : Type} {n : Nat} {f : α → D} {xs : List α} (hl : xs.length ≤ 1000000) (h : ∀ x ∈ xs, Sm n (f x)) : Sm (n + 1) (.list (xs.map f)) := ⟨by rw [List.length_map]; exact hl, fun d hd => by
  obtain ⟨x, hx, rfl⟩ := List.mem_map.mp hd
  exact h x hx⟩
theorem canW (s : Str) (h : PyData.canLay0 (.str s) = true) (n : Nat) : Sm (n + 1) (.str s) := h
theorem sm_rec (n : Nat) {r : Cd.Rec} (h : RcO r) : Sm (n + 4) (rD r) := by
  cases r with
  | folder p => exact sm_2 (canW _ (by decide +kernel) _) (sm_p _ h)
  | file p => exact sm_2 (canW _ (by decide +kernel) _) (sm_p _ h)
  | drop p => exact sm_2 (canW _ (by decide +kernel) _) (sm_p _ h)
  | snap s => exact sm_2 (canW _ (by decide +kernel) _) (sm_s _ h)
  | forget s => exact sm_2 (canW _ (by decide +kernel) _) (sm_s _ h)
  | back s => exact sm_2 (canW _ (by decide +kernel) _) (sm_s _ h)
  | move p q => exact sm_3 (canW _ (by decide +kernel) _) (sm_p _ h.1) (sm_p _ h.2)
  | trim p l b => exact sm_4 (canW _ (by decide +kernel) _) (sm_p _ h.1) (sm_i _ _) (sm_i _ _)
  | put p l ts => exact sm_4 (canW _ (by decide +kernel) _) (sm_p _ h.1) (sm_i _ _) (sm_t (by have := h.2.2.1; omega) fun q _ => sm_2 (sm_i _ _) (sm_i _ _))
theorem sm_th (n : Nat) {t : Cd.Thing} (h : ThO t) : Sm (n + 3) (tD t) := by
  cases t with
  | none => trivial
  | some v => exact sm_2 (sm_i _ _) (sm_t (by have := h.2.1; omega) fun q _ => sm_i _ _)
theorem sm_it (n : Nat) {ts : Cd.Things} (h : TsO ts) : Sm (n + 5) (itD ts) := sm_t (by rw [ks_len]; have := h.1; omega) fun p hp => by
  have hq : PaO p ∧ ThO (gT ts p) := h.2 _ (ks_mem hp).2
  exact sm_2 (sm_p _ hq.1) (sm_th _ hq.2)
theorem sm_ls (n : Nat) {ss : Snaps} (h : SnO ss) : Sm (n + 7) (lsD ss) := sm_t (by rw [sn_len]; have := h.1; omega) fun s hs => by
  have hq : NmO s ∧ TsO (gS ss s) := h.2 _ (sn_mem hs).2
  exact sm_2 (sm_s _ hq.1) (sm_it _ hq.2)
end
end Lw
namespace Lw
open PySem PySem.Spec PyProof.Rows L2 Am
section
variable {P : Program} {w : World} {K : PySem.W.Frag} {mg : Str → Option Value} {base : Heap}
theorem x_lcN {α : Type} {d : α → D} {P : Nat → α → Prop} {q k : Nat} {st st1 : Store} {c : Cell} {it : MI} {vs : List Nat} {pt : Pt} {f : ME} {σ : Slots} (h : st[q]? = some c) (hc : NS c) (hit : it σ st1 = .ok ⟨rangeA 0 k 1, fun _ => True⟩ st) (hk : k ≤ SZ)
    (hf : ∀ (i : Nat) (S : Store) (c2 : Cell), i < k → S[q]? = some c2 → NS c2 → ∃ (σ1 : Slots) (x : α) (c3 : Cell), P i x ∧ NS c3 ∧ pt (wipeA σ vs) (.d (.int (i : Nat))) = some σ1 ∧ f σ1 S = .ok (.d (d x)) (S.set q c3)) :
    ∃ (xs : List α) (c' : Cell), xs.length = k ∧ (∀ i x, xs[i]? = some x → P i x) ∧ NS c' ∧ mLc false vs pt it mYes f σ st1 = .ok (.d (.list (xs.map d))) (st.set q c') := by
  have hl := RelS.lt h
  obtain ⟨ds, s, e, xs, c3, rfl, rfl, hc3, hp, hx⟩ := mLc_eff (vs := vs) (pt := pt) (f := f) (σ := σ) (fun j ds s => ∃ (xs : List α) (c3 : Cell), ds = xs.map d ∧ s = st.set q c3 ∧ NS c3 ∧ (∀ i x, xs[i]? = some x → P i x) ∧ xs.length = j)
    hit (by rw [rangeA_length]; exact hk) ⟨[], c, rfl, by rw [set_same h], hc, (fun _ _ z => by cases z), rfl⟩ (fun _ _ _ _ => trivial) (fun _ ds s ⟨xs, c3, _, e2, hc3, _⟩ => by
      subst e2
      refine ⟨by rw [List.length_set], fun i hi => ?_⟩
      by_cases z : q = i
      · subst z
        obtain ⟨scr, a, b, d, rfl, _⟩ := hc3
        exact .inr ⟨_, List.getElem?_set_self hl, cbelow_d _ [.list (scr.map D.int), .int a, .int b, .int d]⟩
      · rw [List.getElem?_set_ne z]; exact .inl rfl) (fun j x ds s hx ⟨xs, c3, e1, e2, hc3, hp, hxl⟩ => by
      subst e1 e2
      obtain ⟨hj, rfl⟩ := rangeA_get hx
      have e0 : (0 : Int) + (j : Int) * 1 = (j : Int) := by omega
      rw [e0]
      have hq2 : (st.set q c3 ++ [Cell.lst ((xs.map d).map A.d)])[q]? = some c3 := base_get (List.getElem?_set_self hl) _
      obtain ⟨σ1, y, c4, p1, p2, p3, p4⟩ := hf j _ c3 hj hq2 hc3
      rw [base_set (List.getElem?_set_self hl), List.set_set] at p4
      refine ⟨σ1, d y, st.set q c4, p3, p4, xs ++ [y], c4, by rw [List.map_append]; rfl, rfl, p2, fun i x hi => ?_, by rw [List.length_append, hxl]; rfl⟩
      by_cases z : i < xs.length
      · rw [List.getElem?_append_left z] at hi
        exact hp i x hi
      · rw [List.getElem?_append_right (by omega)] at hi
        have hz : i - xs.length = 0 := by
          have := (List.getElem?_eq_some_iff.mp hi).1
          simp at this
          omega
        rw [hz] at hi
        cases hi
        have : i = j := by omega
        rw [this]
        exact p1)
  rw [rangeA_length] at hx
  exact ⟨xs, c3, hx, hp, hc3, e⟩
abbrev words8 : List Str := ["a", "b2", "0", "_", "z_9", "abcdefghijkl", "mnopqrstuvwx", "yz0123456789"]
theorem words8_ok : ∀ s ∈ words8, NmO s := by unfold NmO TxO; decide +kernel
section
variable {q : Nat} {st : Store} {c : Cell}
theorem x_word (h : st[q]? = some c) (hc : NS c) : ∃ (s : Str) (c' : Cell), NmO s ∧ NS c' ∧ m__law_word [.c q] st = .ok (.d (.str s)) (st.set q c') := by
  obtain ⟨v, c1, hv, hc1, e1⟩ := x_next (L := 8) h hc (by decide) (by decide)
  have e1 : m__law_next [.c q, .d (.int 8)] st = .ok (.d (.int v)) (st.set q c1) := e1
  obtain ⟨s, hs⟩ : ∃ s, words8[v]? = some s := ⟨_, List.getElem?_eq_getElem hv⟩
  have ha : atI [A.d (.str "a"), A.d (.str "b2"), A.d (.str "0"), A.d (.str "_"), A.d (.str "z_9"), A.d (.str "abcdefghijkl"), A.d (.str "mnopqrstuvwx"), A.d (.str "yz0123456789")] (v : Int) = some (.d (.str s)) := atI_nat (by
    show ((words8.map D.str).map A.d)[v]? = _
    rw [List.getElem?_map, List.getElem?_map, hs]
    rfl)
  refine ⟨s, c1, words8_ok s (List.mem_of_getElem? hs), hc1, ?_⟩
  unfold m__law_word b__law_word
  clear hs
  walk_at "ev*"
theorem x_somepath (h : st[q]? = some c) (hc : NS c) : ∃ (p : Cd.Path) (c' : Cell), PaO p ∧ NS c' ∧ m__law_some_path [.c q] st = .ok (.d (pD p)) (st.set q c') := by
  obtain ⟨v, c1, hv, hc1, e1⟩ := x_next (L := 7) h hc (by decide) (by decide)
  have e1 : m__law_next [.c q, .d (.int 7)] st = .ok (.d (.int v)) (st.set q c1) := e1
  have hl := RelS.lt h
  obtain ⟨p, c2, hp, hP, hc2, e2⟩ := x_lcN (it := iRng1M (mCons (mCall m__law_next (mCons (mVar 0) (mCons (mC (.int 7)) mNil))) mNil)) (d := D.str) (P := fun _ s => NmO s) (k := v) (vs := [1]) (pt := pt1 1) (f := mCall m__law_word (mCons (mVar 0) mNil)) (σ := [some (.c q), none]) (List.getElem?_set_self hl) hc1 (x_rng (f := mCall m__law_next (mCons (mVar 0) (mCons (mC (.int 7)) mNil))) e1 (by omega)) (by unfold SZ; omega) (fun i S c2 hi hS hc2 => by
    obtain ⟨s, c3, hs, hc3, e3⟩ := x_word hS hc2
    exact ⟨_, s, c3, hs, hc3, rfl, e3⟩)
  rw [List.set_set] at e2
  refine ⟨p, c2, ⟨by omega, fun s hs => ?_⟩, hc2, ?_⟩
  · obtain ⟨i, hi⟩ := List.getElem?_of_mem hs
    exact hP i s hi
  · have s1 := len_ok (f := D.str) (xs := p) (by omega)
    unfold m__law_some_path b__law_some_path
    clear e1
    walk_at "ev*"
    rfl
theorem x_big (h : st[q]? = some c) (hc : NS c) : ∃ (v : Nat) (c' : Cell), v < 4611686018427387904 ∧ NS c' ∧ m__law_big [.c q] st = .ok (.d (.int v)) (st.set q c') := by
  obtain ⟨v, c1, hv, hc1, e1⟩ := x_next (L := 4) h hc (by decide) (by decide)
  have e1 : m__law_next [.c q, .d (.int 4)] st = .ok (.d (.int v)) (st.set q c1) := e1
  have hl := RelS.lt h
  have hL : ∃ L : Nat, 0 < L ∧ L ≤ 4611686018427387904 ∧ CDivA 0 (L : Int) ∧ atI [A.d (.int 2), A.d (.int 130), A.d (.int 20000), A.d (.int 4611686018427387904)] (v : Int) = some (.d (.int (L : Nat))) := by
    match v, hv with
    | 0, _ => exact ⟨2, by decide, by decide, .inl ⟨by decide, by decide⟩, rfl⟩
    | 1, _ => exact ⟨130, by decide, by decide, .inl ⟨by decide, by decide⟩, rfl⟩
    | 2, _ => exact ⟨20000, by decide, by decide, .inl ⟨by decide, by decide⟩, rfl⟩
    | 3, _ => exact ⟨4611686018427387904, by decide, by decide, .inr ⟨by decide, by decide +kernel⟩, rfl⟩
  obtain ⟨L, h0, h1, h2, h3⟩ := hL
  obtain ⟨u, c2, hu, hc2, e2⟩ := x_nextW (L := L) (st := st.set q c1) (List.getElem?_set_self hl) hc1 h0 h2
  rw [List.set_set] at e2
  have hp : CPow 2 62 := ⟨by decide, by decide, by decide⟩
  have e62 : ((2 : Int) ^ Int.toNat 62) = 4611686018427387904 := by decide
  refine ⟨u, c2, by omega, hc2, ?_⟩
  unfold m__law_big b__law_big
  clear h0 h1 hu hv
  walk_at "ev*"
end
end
end Lw
namespace Lw
open PySem PySem.Spec PyProof.Rows L2 Am
section
variable {P : Program} {w : World} {K : PySem.W.Frag} {mg : Str → Option Value} {base : Heap}
section
variable {q : Nat} {st : Store} {c : Cell}
theorem x_pairs {k : Nat} {y : Option A} {w p l : A} (h : st[q]? = some c) (hc : NS c) (hk : k ≤ 1000) : ∃ (ts : List (Nat × Nat)) (c' : Cell), ts.length ≤ 1000 ∧ (∀ t ∈ ts, t.1 < Cd.N70 ∧ t.2 < Cd.N70) ∧ NS c' ∧ mLc false [4] (pt1 4) (iRng1M (mCons (mVar 3) mNil)) mYes (mTup (mCons (mCall m__law_big (mCons (mVar 0) mNil)) (mCons (mVar 4) mNil))) [some (.c q), some w, some p, some (.d (.int (k : Nat))), y] st = .ok (.d (.list (ts.map fun t => .tup [iN t.1, iN t.2]))) (st.set q c') := by
  obtain ⟨ts, c', h1, h2, h3, h4⟩ := x_lcN (it := iRng1M (mCons (mVar 3) mNil)) (d := fun t : Nat × Nat => .tup [iN t.1, iN t.2]) (P := fun i t => t.1 < 4611686018427387904 ∧ t.2 = i) (k := k) (vs := [4]) (pt := pt1 4) (f := mTup (mCons (mCall m__law_big (mCons (mVar 0) mNil)) (mCons (mVar 4) mNil))) (σ := [some (.c q), some w, some p, some (.d (.int (k : Nat))), y]) (st1 := st) h hc (x_rng (f := mVar 3) rfl (by omega)) (by unfold SZ; omega) (fun i S c2 hi hS hc2 => by
    obtain ⟨v, c3, hv, hc3, e3⟩ := x_big hS hc2
    refine ⟨[some (.c q), some w, some p, some (.d (.int (k : Nat))), some (.d (.int (i : Nat)))], (v, i), c3, ⟨hv, rfl⟩, hc3, rfl, ?_⟩
    clear hS h hi
    walk_at "ev*")
  refine ⟨ts, c', by omega, fun t ht => ?_, h3, h4⟩
  obtain ⟨i, hi⟩ := List.getElem?_of_mem ht
  obtain ⟨a, b⟩ := h2 i t hi
  have := (List.getElem?_eq_some_iff.mp hi).1
  exact ⟨Nat.lt_trans a (by decide), by rw [b]; exact Nat.lt_of_lt_of_le (show i < 1000 by omega) (by decide)⟩
theorem x_drec (h : st[q]? = some c) (hc : NS c) : ∃ (r : Cd.Rec) (c' : Cell), RcO r ∧ NS c' ∧ m__law_record [.c q] st = .ok (.d (rD r)) (st.set q c') := by
  obtain ⟨v, c1, hv, hc1, e1⟩ := x_next (L := 10) h hc (by decide) (by decide)
  have e1 : m__law_next [.c q, .d (.int 10)] st = .ok (.d (.int v)) (st.set q c1) := e1
  have hl := RelS.lt h
  have hg : ∀ c, (st.set q c)[q]? = some c := fun c => List.getElem?_set_self hl
  have N62 : (4611686018427387904 : Nat) < Cd.N70 := by decide
  clear h hc
  unfold m__law_record b__law_record
  match v, hv with
  | 0, _ =>
    have ha : atI [A.d (.str "folder"), A.d (.str "file"), A.d (.str "put"), A.d (.str "put"), A.d (.str "trim"), A.d (.str "move"), A.d (.str "drop"), A.d (.str "snap"), A.d (.str "forget"), A.d (.str "back")] ((0 : Nat) : Int) = some (.d (.str "folder")) := rfl
    have wl := fun s => wl_folder s
    obtain ⟨p, c2, hp, hc2, e2⟩ := x_somepath (hg c1) hc1
    rw [List.set_set] at e2
    have w1 := fun s => wput_folder s
    have w2 := fun s => wtrim_folder s
    have w3 := fun s => wmove_folder s
    refine ⟨.folder p, c2, hp, hc2, ?_⟩
    unfold rD
    clear hg
    walk_at "ev*"
  | 1, _ =>
    have ha : atI [A.d (.str "folder"), A.d (.str "file"), A.d (.str "put"), A.d (.str "put"), A.d (.str "trim"), A.d (.str "move"), A.d (.str "drop"), A.d (.str "snap"), A.d (.str "forget"), A.d (.str "back")] ((1 : Nat) : Int) = some (.d (.str "file")) := rfl
    have wl := fun s => wl_file s
    obtain ⟨p, c2, hp, hc2, e2⟩ := x_somepath (hg c1) hc1
    rw [List.set_set] at e2
    have w1 := fun s => wput_file s
    have w2 := fun s => wtrim_file s
    have w3 := fun s => wmove_file s
    refine ⟨.file p, c2, hp, hc2, ?_⟩
    unfold rD
    clear hg
    walk_at "ev*"
  | 2, _ =>
    have ha : atI [A.d (.str "folder"), A.d (.str "file"), A.d (.str "put"), A.d (.str "put"), A.d (.str "trim"), A.d (.str "move"), A.d (.str "drop"), A.d (.str "snap"), A.d (.str "forget"), A.d (.str "back")] ((2 : Nat) : Int) = some (.d (.str "put")) := rfl
    have wl := fun s => wl_put s
    obtain ⟨p, c2, hp, hc2, e2⟩ := x_somepath (hg c1) hc1
    rw [List.set_set] at e2
    have w1 := fun s => wput_put s
    have w2 := fun s => wtrim_put s
    have w3 := fun s => wmove_put s
    obtain ⟨k, c3, hk, hc3, e3⟩ := x_next (L := 5) (hg c2) hc2 (by decide) (by decide)
    rw [List.set_set] at e3
    have e3 : m__law_next [.c q, .d (.int 5)] (st.set q c2) = .ok (.d (.int k)) (st.set q c3) := e3
    obtain ⟨u, c4, hu, hc4, e4⟩ := x_next (L := 12) (hg c3) hc3 (by decide) (by decide)
    rw [List.set_set] at e4
    have e4 : m__law_next [.c q, .d (.int 12)] (st.set q c3) = .ok (.d (.int u)) (st.set q c4) := e4
    by_cases z : u = 0
    · obtain ⟨j, c5, hj, hc5, e5⟩ := x_next (L := 9) (hg c4) hc4 (by decide) (by decide)
      rw [List.set_set] at e5
      have e5 : m__law_next [.c q, .d (.int 9)] (st.set q c4) = .ok (.d (.int j)) (st.set q c5) := e5
      obtain ⟨l, c6, hl2, hc6, e6⟩ := x_big (hg c5) hc5
      rw [List.set_set] at e6
      obtain ⟨ts, c7, ht1, ht2, hc7, e7⟩ := x_pairs (k := 128 + j) (y := none) (w := .d (.str "put")) (p := .d (pD p)) (l := .d (.int 0)) (hg c6) hc6 (by omega)
      rw [List.set_set] at e7
      refine ⟨.put p l ts, c7, ⟨hp, Nat.lt_trans hl2 N62, ht1, ht2⟩, hc7, ?_⟩
      have s1 := len_ok (f := fun t : Nat × Nat => .tup [iN t.1, iN t.2]) (xs := ts) (by omega)
      have d1 : decide ((u : Int) = 0) = true := decide_eq_true (by omega)
      have d2 : 128 + (j : Int) = ((128 + j : Nat) : Int) := by omega
      unfold rD
      clear hg hl2 ht1 ht2 hk hu hj z
      generalize 128 + j = K at *
      walk_at "ev*"
    · obtain ⟨l, c6, hl2, hc6, e6⟩ := x_big (hg c4) hc4
      rw [List.set_set] at e6
      obtain ⟨ts, c7, ht1, ht2, hc7, e7⟩ := x_pairs (k := k) (y := none) (w := .d (.str "put")) (p := .d (pD p)) (l := .d (.int 0)) (hg c6) hc6 (by omega)
      rw [List.set_set] at e7
      refine ⟨.put p l ts, c7, ⟨hp, Nat.lt_trans hl2 N62, ht1, ht2⟩, hc7, ?_⟩
      have s1 := len_ok (f := fun t : Nat × Nat => .tup [iN t.1, iN t.2]) (xs := ts) (by omega)
      have d1 : decide ((u : Int) = 0) = false := decide_eq_false (by omega)
      unfold rD
      clear hg hl2 ht1 ht2 hk hu z
      walk_at "ev*"
  | 3, _ =>
    have ha : atI [A.d (.str "folder"), A.d (.str "file"), A.d (.str "put"), A.d (.str "put"), A.d (.str "trim"), A.d (.str "move"), A.d (.str "drop"), A.d (.str "snap"), A.d (.str "forget"), A.d (.str "back")] ((3 : Nat) : Int) = some (.d (.str "put")) := rfl
    have wl := fun s => wl_put s
    obtain ⟨p, c2, hp, hc2, e2⟩ := x_somepath (hg c1) hc1
    rw [List.set_set] at e2
    have w1 := fun s => wput_put s
    have w2 := fun s => wtrim_put s
    have w3 := fun s => wmove_put s
    obtain ⟨k, c3, hk, hc3, e3⟩ := x_next (L := 5) (hg c2) hc2 (by decide) (by decide)
    rw [List.set_set] at e3
    have e3 : m__law_next [.c q, .d (.int 5)] (st.set q c2) = .ok (.d (.int k)) (st.set q c3) := e3
    obtain ⟨u, c4, hu, hc4, e4⟩ := x_next (L := 12) (hg c3) hc3 (by decide) (by decide)
    rw [List.set_set] at e4
    have e4 : m__law_next [.c q, .d (.int 12)] (st.set q c3) = .ok (.d (.int u)) (st.set q c4) := e4
    by_cases z : u = 0
    · obtain ⟨j, c5, hj, hc5, e5⟩ := x_next (L := 9) (hg c4) hc4 (by decide) (by decide)
      rw [List.set_set] at e5
      have e5 : m__law_next [.c q, .d (.int 9)] (st.set q c4) = .ok (.d (.int j)) (st.set q c5) := e5
      obtain ⟨l, c6, hl2, hc6, e6⟩ := x_big (hg c5) hc5
      rw [List.set_set] at e6
      obtain ⟨ts, c7, ht1, ht2, hc7, e7⟩ := x_pairs (k := 128 + j) (y := none) (w := .d (.str "put")) (p := .d (pD p)) (l := .d (.int 0)) (hg c6) hc6 (by omega)
      rw [List.set_set] at e7
      refine ⟨.put p l ts, c7, ⟨hp, Nat.lt_trans hl2 N62, ht1, ht2⟩, hc7, ?_⟩
      have s1 := len_ok (f := fun t : Nat × Nat => .tup [iN t.1, iN t.2]) (xs := ts) (by omega)
      have d1 : decide ((u : Int) = 0) = true := decide_eq_true (by omega)
      have d2 : 128 + (j : Int) = ((128 + j : Nat) : Int) := by omega
      unfold rD
      clear hg hl2 ht1 ht2 hk hu hj z
      generalize 128 + j = K at *
      walk_at "ev*"
    · obtain ⟨l, c6, hl2, hc6, e6⟩ := x_big (hg c4) hc4
      rw [List.set_set] at e6
      obtain ⟨ts, c7, ht1, ht2, hc7, e7⟩ := x_pairs (k := k) (y := none) (w := .d (.str "put")) (p := .d (pD p)) (l := .d (.int 0)) (hg c6) hc6 (by omega)
      rw [List.set_set] at e7
      refine ⟨.put p l ts, c7, ⟨hp, Nat.lt_trans hl2 N62, ht1, ht2⟩, hc7, ?_⟩
      have s1 := len_ok (f := fun t : Nat × Nat => .tup [iN t.1, iN t.2]) (xs := ts) (by omega)
      have d1 : decide ((u : Int) = 0) = false := decide_eq_false (by omega)
      unfold rD
      clear hg hl2 ht1 ht2 hk hu z
      walk_at "ev*"
  | 4, _ =>
    have ha : atI [A.d (.str "folder"), A.d (.str "file"), A.d (.str "put"), A.d (.str "put"), A.d (.str "trim"), A.d (.str "move"), A.d (.str "drop"), A.d (.str "snap"), A.d (.str "forget"), A.d (.str "back")] ((4 : Nat) : Int) = some (.d (.str "trim")) := rfl
    have wl := fun s => wl_trim s
    obtain ⟨p, c2, hp, hc2, e2⟩ := x_somepath (hg c1) hc1
    rw [List.set_set] at e2
    have w1 := fun s => wput_trim s
    have w2 := fun s => wtrim_trim s
    have w3 := fun s => wmove_trim s
    obtain ⟨l, c3, hl2, hc3, e3⟩ := x_big (hg c2) hc2
    rw [List.set_set] at e3
    obtain ⟨b, c4, hb, hc4, e4⟩ := x_big (hg c3) hc3
    rw [List.set_set] at e4
    refine ⟨.trim p l b, c4, ⟨hp, Nat.lt_trans hl2 N62, Nat.lt_trans hb N62⟩, hc4, ?_⟩
    unfold rD
    clear hg hl2 hb
    walk_at "ev*"
  | 5, _ =>
    have ha : atI [A.d (.str "folder"), A.d (.str "file"), A.d (.str "put"), A.d (.str "put"), A.d (.str "trim"), A.d (.str "move"), A.d (.str "drop"), A.d (.str "snap"), A.d (.str "forget"), A.d (.str "back")] ((5 : Nat) : Int) = some (.d (.str "move")) := rfl
    have wl := fun s => wl_move s
    obtain ⟨p, c2, hp, hc2, e2⟩ := x_somepath (hg c1) hc1
    rw [List.set_set] at e2
    have w1 := fun s => wput_move s
    have w2 := fun s => wtrim_move s
    have w3 := fun s => wmove_move s
    obtain ⟨p2, c3, hp2, hc3, e3⟩ := x_somepath (hg c2) hc2
    rw [List.set_set] at e3
    refine ⟨.move p p2, c3, ⟨hp, hp2⟩, hc3, ?_⟩
    unfold rD
    clear hg
    walk_at "ev*"
  | 6, _ =>
    have ha : atI [A.d (.str "folder"), A.d (.str "file"), A.d (.str "put"), A.d (.str "put"), A.d (.str "trim"), A.d (.str "move"), A.d (.str "drop"), A.d (.str "snap"), A.d (.str "forget"), A.d (.str "back")] ((6 : Nat) : Int) = some (.d (.str "drop")) := rfl
    have wl := fun s => wl_drop s
    obtain ⟨p, c2, hp, hc2, e2⟩ := x_somepath (hg c1) hc1
    rw [List.set_set] at e2
    have w1 := fun s => wput_drop s
    have w2 := fun s => wtrim_drop s
    have w3 := fun s => wmove_drop s
    refine ⟨.drop p, c2, hp, hc2, ?_⟩
    unfold rD
    clear hg
    walk_at "ev*"
  | 7, _ =>
    have ha : atI [A.d (.str "folder"), A.d (.str "file"), A.d (.str "put"), A.d (.str "put"), A.d (.str "trim"), A.d (.str "move"), A.d (.str "drop"), A.d (.str "snap"), A.d (.str "forget"), A.d (.str "back")] ((7 : Nat) : Int) = some (.d (.str "snap")) := rfl
    have wl := fun s => wl_snap s
    obtain ⟨n, c2, hn, hc2, e2⟩ := x_word (hg c1) hc1
    rw [List.set_set] at e2
    refine ⟨.snap n, c2, hn, hc2, ?_⟩
    unfold rD
    clear hg
    walk_at "ev*"
  | 8, _ =>
    have ha : atI [A.d (.str "folder"), A.d (.str "file"), A.d (.str "put"), A.d (.str "put"), A.d (.str "trim"), A.d (.str "move"), A.d (.str "drop"), A.d (.str "snap"), A.d (.str "forget"), A.d (.str "back")] ((8 : Nat) : Int) = some (.d (.str "forget")) := rfl
    have wl := fun s => wl_forget s
    obtain ⟨n, c2, hn, hc2, e2⟩ := x_word (hg c1) hc1
    rw [List.set_set] at e2
    refine ⟨.forget n, c2, hn, hc2, ?_⟩
    unfold rD
    clear hg
    walk_at "ev*"
  | 9, _ =>
    have ha : atI [A.d (.str "folder"), A.d (.str "file"), A.d (.str "put"), A.d (.str "put"), A.d (.str "trim"), A.d (.str "move"), A.d (.str "drop"), A.d (.str "snap"), A.d (.str "forget"), A.d (.str "back")] ((9 : Nat) : Int) = some (.d (.str "back")) := rfl
    have wl := fun s => wl_back s
    obtain ⟨n, c2, hn, hc2, e2⟩ := x_word (hg c1) hc1
    rw [List.set_set] at e2
    refine ⟨.back n, c2, hn, hc2, ?_⟩
    unfold rD
    clear hg
    walk_at "ev*"
end
end
end Lw
namespace Lw
open PySem PySem.Spec PyProof.Rows L2 Am
section
variable {P : Program} {w : World} {K : PySem.W.Frag} {mg : Str → Option Value} {base : Heap}
theorem ns_below {c : Cell} (h : NS c) (k : Nat) : CBelow k c := by
  obtain ⟨scr, a, b, d, rfl, _⟩ := h
  exact cbelow_d _ [.list (scr.map D.int), .int a, .int b, .int d]
theorem exit2_dT {st : Store} {q : Nat} {c2 : Cell} (hl : q < st.length) (hb : CBelow st.length c2) {kvs : List (List Key × A)} {ds : List (List Key × D)} (hd : pairsD kvs = some ds) : exitR 2 st (.c st.length) (st.set q c2 ++ [.dT kvs]) = .ok (.d (.dT ds)) (st.set q c2) := by
  have hg : (st.set q c2 ++ [Cell.dT kvs])[st.length]? = some (.dT kvs) := by
    rw [List.getElem?_append_right (by rw [List.length_set]; exact Nat.le_refl _), List.length_set, Nat.sub_self]
    rfl
  have hf : frz (.c st.length) (st.set q c2 ++ [Cell.dT kvs]) = .ok (.d (.dT ds)) (st.set q c2 ++ [.fz (.dT ds)]) := by
    unfold frz
    simp only [hg]
    show (match (pairsD kvs).map D.dT with | some d => Res.ok (A.d d) ((st.set q c2 ++ [Cell.dT kvs]).set st.length (.fz d)) | none => .no) = _
    rw [hd]
    show Res.ok _ _ = _
    rw [List.set_append_right _ _ (by rw [List.length_set]; exact Nat.le_refl _), List.length_set, Nat.sub_self]
    rfl
  rw [exitR_2, hf, bind_ok, need_pos]
  · rw [List.take_left' (by rw [List.length_set])]
  · refine ⟨⟨by rw [List.length_append, List.length_set]; omega, fun i hi => ?_⟩, trivial⟩
    rw [List.getElem?_append_left (by rw [List.length_set]; exact hi)]
    by_cases z : q = i
    · subst z
      exact .inr ⟨_, List.getElem?_set_self hl, hb⟩
    · rw [List.getElem?_set_ne z]; exact .inl rfl
theorem kvT_put (ts : Cd.Things) (p : Cd.Path) (t : Cd.Thing) : putA (kvT ts) (kP p) (.d (tD t)) = kvT (putA ts p t) := putA_map kP kP_inj (fun t => A.d (tD t)) p t ts
/-- what the law draws as things -/
def DrT (k : Nat) (ts : Cd.Things) : Prop := ts.length ≤ k ∧ (∀ q ∈ ts, PaO q.1 ∧ ThO q.2) ∧ (ts.map (·.1)).Nodup
theorem DrT.put {k : Nat} {ts : Cd.Things} (h : DrT k ts) {p : Cd.Path} {t : Cd.Thing} (hp : PaO p) (ht : ThO t) : DrT (k + 1) (putA ts p t) := by
  refine ⟨Nat.le_trans putA_len (Nat.succ_le_succ h.1), fun q hq => ?_, putA_nodup h.2.2⟩
  rcases putA_mem hq with hq | rfl
  · exact h.2.1 q hq
  · exact ⟨hp, ht⟩
theorem putA_same_len {κ α : Type} [DecidableEq κ] {kvs : List (κ × α)} {k : κ} {v v2 : α} : (putA (putA kvs k v) k v2).length = (putA kvs k v).length := by
  have : ((putA kvs k v).any fun kv => decide (kv.1 = k)) = true := by
    unfold putA
    split
    · rename_i h
      obtain ⟨p, hp, e⟩ := List.any_eq_true.mp h
      refine List.any_eq_true.mpr ⟨(p.1, v), List.mem_map.mpr ⟨p, hp, ?_⟩, e⟩
      rw [if_pos (of_decide_eq_true e)]
    · exact List.any_eq_true.mpr ⟨(k, v), List.mem_append_right _ (List.mem_singleton.mpr rfl), decide_eq_true rfl⟩
  have hx : ∀ ks : List (κ × α), (ks.any fun kv => decide (kv.1 = k)) = true → (putA ks k v2).length = ks.length := fun ks h => by
    unfold putA
    rw [if_pos h, List.length_map]
  exact hx _ this
section
variable {q : Nat} {st : Store} {c : Cell}
theorem x_dthings (h : st[q]? = some c) (hc : NS c) : ∃ (ts : Cd.Things) (c' : Cell), DrT 6 ts ∧ NS c' ∧ m__law_things [.c q] st = .ok (.d (thD ts)) (st.set q c') := by
  have hl := RelS.lt h
  have hq : ∀ c J, (st.set q c ++ J)[q]? = some c := fun c J => base_get (List.getElem?_set_self hl) _
  have hs : ∀ c c2 J, (st.set q c ++ J).set q c2 = st.set q c2 ++ J := fun c c2 J => by rw [base_set (List.getElem?_set_self hl), List.set_set]
  have g1 : ∀ N c, (st.set q N ++ [c])[st.length]? = some c := fun N c => by
    rw [List.getElem?_append_right (by rw [List.length_set]; exact Nat.le_refl _), List.length_set, Nat.sub_self]
    rfl
  have g2 : ∀ N c c2, (st.set q N ++ [c]).set st.length c2 = st.set q N ++ [c2] := fun N c c2 => by
    rw [List.set_append_right _ _ (by rw [List.length_set]; exact Nat.le_refl _), List.length_set, Nat.sub_self]
    rfl
  obtain ⟨v, c1, hv, hc1, e1⟩ := x_next (L := 6) (q := q) (st := st ++ [.dT []]) (base_get h _) hc (by decide) (by decide)
  rw [base_set h] at e1
  have e1 : m__law_next [.c q, .d (.int 6)] (st ++ [.dT []]) = .ok (.d (.int v)) (st.set q c1 ++ [.dT []]) := e1
  have d1 := mDNewT_ap (σ := [some (.c q), none, none, none, none]) (st := st)
  unfold m__law_things b__law_things
  walk_at "ev"
  rw [e1]
  walk_at "ev"
  generalize ho : forA _ _ _ _ _ _ = o
  obtain ⟨σ1, st1, rfl, y2, y3, y4, ts, c2, rfl, rfl, hc2, hD⟩ := forR_nx (n := v) ho (fun i σ t => ∃ (y2 y3 y4 : Option A) (ts : Cd.Things) (c2 : Cell), σ = [some (.c q), some (.c st.length), y2, y3, y4] ∧ t = st.set q c2 ++ [.dT (kvT ts)] ∧ NS c2 ∧ DrT i ts)
    ⟨_, _, _, [], c1, rfl, rfl, hc1, Nat.le_refl _, (fun _ h => nomatch h), List.nodup_nil⟩ (fun _ _ _ _ _ => trivial) (fun i σ t hi ⟨y2, y3, y4, ts, c2, q1, q2, hc2, hD⟩ => by
      subst q1 q2
      obtain ⟨p, c3, hp, hc3, e3⟩ := x_somepath (hq c2 [.dT (kvT ts)]) hc2
      rw [hs] at e3
      have k1 := keysT_pD p
      have l1 : (kvT ts).length < SZ := by have := hD.1; rw [List.length_map]; unfold SZ; omega
      have s3 := fun v σ => sub3_T (g1 c3 (.dT (kvT ts))) k1 l1 v σ
      have k2 : putA (kvT ts) (kP p) (.d .non) = kvT (putA ts p none) := kvT_put ts p none
      have hD2 : DrT (i + 1) (putA ts p none) := hD.put hp trivial
      obtain ⟨u, c4, hu, hc4, e4⟩ := x_next (L := 3) (hq c3 [.dT (kvT (putA ts p none))]) hc3 (by decide) (by decide)
      rw [hs] at e4
      have e4 : m__law_next [.c q, .d (.int 3)] (st.set q c3 ++ [.dT (kvT (putA ts p none))]) = .ok (.d (.int u)) (st.set q c4 ++ [.dT (kvT (putA ts p none))]) := e4
      by_cases z : u = 0
      · have d2 : decide ((0 : Int) < (u : Int)) = false := decide_eq_false (by omega)
        refine nxt_of (σ := [some (.c q), some (.c st.length), some (.d (.int (0 + (i : Nat)))), some (.d (pD p)), y4]) (st := st.set q c4 ++ [.dT (kvT (putA ts p none))]) ?_ ⟨_, _, _, _, _, rfl, rfl, hc4, hD2⟩
        clear ho e1 d1 h hl hs hq hD hD2 hi hu hv l1 z
        generalize kvT (putA ts p none) = K2 at *
        generalize kvT ts = K1 at *
        generalize st.length = q0 at *
        walk_at "ev*"
      · have d2 : decide ((0 : Int) < (u : Int)) = true := decide_eq_true (by omega)
        obtain ⟨l, c5, hl5, hc5, e5⟩ := x_big (hq c4 [.dT (kvT (putA ts p none))]) hc4
        rw [hs] at e5
        obtain ⟨k, c6, hk, hc6, e6⟩ := x_next (L := 4) (hq c5 [.dT (kvT (putA ts p none))]) hc5 (by decide) (by decide)
        rw [hs] at e6
        have e6 : m__law_next [.c q, .d (.int 4)] (st.set q c5 ++ [.dT (kvT (putA ts p none))]) = .ok (.d (.int k)) (st.set q c6 ++ [.dT (kvT (putA ts p none))]) := e6
        obtain ⟨ns, c7, hn1, hn2, hc7, e7⟩ := x_lcN (it := iRng1M (mCons (mCall m__law_next (mCons (mVar 0) (mCons (mC (.int 4)) mNil))) mNil)) (d := iN) (P := fun _ v => v < Cd.N70) (k := k) (vs := [4]) (pt := pt1 4) (f := mCall m__law_big (mCons (mVar 0) mNil)) (σ := [some (.c q), some (.c st.length), some (.d (.int (0 + (i : Nat)))), some (.d (pD p)), y4]) (hq c6 [.dT (kvT (putA ts p none))]) hc6 (x_rng (f := mCall m__law_next (mCons (mVar 0) (mCons (mC (.int 4)) mNil))) e6 (by omega)) (by unfold SZ; omega) (fun i S c2 hi hS hc2 => by
          obtain ⟨s, c3, hs, hc3, e3⟩ := x_big hS hc2
          exact ⟨_, s, c3, Nat.lt_trans hs (by decide), hc3, rfl, e3⟩)
        rw [hs] at e7
        have hT : ThO (some (l, ns)) := ⟨Nat.lt_trans hl5 (by decide), by omega, fun s hs => by
          obtain ⟨j, hj⟩ := List.getElem?_of_mem hs
          exact hn2 j s hj⟩
        have sn := len_ok (f := iN) (xs := ns) (by omega)
        have l2 : (kvT (putA ts p none)).length < SZ := by have := hD2.1; rw [List.length_map]; unfold SZ; omega
        have s4 := fun v σ => sub3_T (g1 c7 (.dT (kvT (putA ts p none)))) k1 l2 v σ
        have k3 : putA (kvT (putA ts p none)) (kP p) (.d (.tup [iN l, .tup (ns.map iN)])) = kvT (putA (putA ts p none) p (some (l, ns))) := kvT_put (putA ts p none) p (some (l, ns))
        have hD3 : DrT (i + 1) (putA (putA ts p none) p (some (l, ns))) := by
          have := hD2.put hp hT
          exact ⟨by rw [putA_same_len]; exact hD2.1, this.2⟩
        refine nxt_of (σ := [some (.c q), some (.c st.length), some (.d (.int (0 + (i : Nat)))), some (.d (pD p)), y4]) (st := st.set q c7 ++ [.dT (kvT (putA (putA ts p none) p (some (l, ns))))]) ?_ ⟨_, _, _, _, _, rfl, rfl, hc7, hD3⟩
        clear ho e1 d1 h hl hs hq hD hD2 hD3 hT hi hu hv l1 l2 hn1 hn2 hk hl5 z
        generalize kvT (putA (putA ts p none) p (some (l, ns))) = K3 at *
        generalize kvT (putA ts p none) = K2 at *
        generalize kvT ts = K1 at *
        generalize st.length = q0 at *
        walk_at "ev*")
  refine ⟨ts, c2, ⟨by have := hD.1; omega, hD.2⟩, hc2, ?_⟩
  have x1 := exit2_dT (st := st) hl (ns_below hc2 _) (pairs_kvT ts)
  clear ho e1 d1 h hl hs hq g1 g2
  walk_at "ev*"
end
end
end Lw
namespace Lw
open PySem PySem.Spec PyProof.Rows L2 Am
section
variable {P : Program} {w : World} {K : PySem.W.Frag} {mg : Str → Option Value} {base : Heap}
theorem gListA_scr (ns : List Int) (hl : ns.length ≤ 63) (st : Store) : gListA false [.d (scrI ns)] st = .ok (.d (.list (ns.map D.int))) st := by
  have := len_ok (f := D.int) (xs := ns) (by omega)
  show mkL false ((ns.map D.int).map A.d) st = _
  walk_at "ev"
theorem gListA_list (xs : List D) (hl : xs.length ≤ 1000) (st : Store) : gListA false [.d (.list xs)] st = .ok (.d (.list xs)) st := by
  have : (xs.map A.d).length ≤ SZ := by rw [List.length_map]; unfold SZ; omega
  show mkL false (xs.map A.d) st = _
  walk_at "ev"
section
variable {J : Store} {c : Cell}
/-- the law's draws at the head of the store -/
theorem n0 (c2 : Cell) : (c :: J).set 0 c2 = c2 :: J := rfl
theorem x_nx (L : Nat) (hc : NS c) (h1 : 0 < L) (h2 : L < 1073741824) : ∃ (v : Nat) (c' : Cell), v < L ∧ NS c' ∧ m__law_next [.c 0, .d (.int L)] (c :: J) = .ok (.d (.int v)) (c' :: J) := x_next (q := 0) (st := c :: J) rfl hc h1 h2
theorem x_tail {σ : Slots} (hc : NS c) (h1 : σ[1]? = some (some (.c 0))) (h2 : ∀ a, ((wipeA σ [10]).set 10 (some a))[1]? = some (some (.c 0))) : ∃ (tail : List Nat) (c' : Cell), tail.length ≤ 2 ∧ NS c' ∧ mLc false [10] (pt1 10) (iRng1M (mCons (mCall m__law_next (mCons (mVar 1) (mCons (mC (.int 3)) mNil))) mNil)) mYes (mCall m__law_next (mCons (mVar 1) (mCons (mC (.int 256)) mNil))) σ (c :: J) = .ok (.d (bL tail)) (c' :: J) := by
  obtain ⟨v, c1, hv, hc1, e1⟩ := x_nx (J := J) 3 hc (by decide) (by decide)
  have m1 : ∀ (σ : Slots) S, σ[1]? = some (some (.c 0)) → mVar 1 σ S = .ok (.c 0) S := fun σ S h => by unfold mVar; rw [h]
  obtain ⟨p, c2, hp, hP, hc2, e2⟩ := x_lcN (q := 0) (st := c1 :: J) (st1 := c :: J) (it := iRng1M (mCons (mCall m__law_next (mCons (mVar 1) (mCons (mC (.int 3)) mNil))) mNil)) (d := iN) (P := fun _ _ => True) (k := v) (vs := [10]) (pt := pt1 10) (f := mCall m__law_next (mCons (mVar 1) (mCons (mC (.int 256)) mNil))) (σ := σ) rfl hc1 (x_rng (f := mCall m__law_next (mCons (mVar 1) (mCons (mC (.int 3)) mNil))) (by
      have e1 : m__law_next [.c 0, .d (.int 3)] (c :: J) = _ := e1
      clear h2 m1
      walk_at "ev*") (by omega)) (by unfold SZ; omega) (fun i S c2 hi hS hc2 => by
    obtain ⟨s, c3, hs, hc3, e3⟩ := x_next (L := 256) hS hc2 (by decide) (by decide)
    have e3 : m__law_next [.c 0, .d (.int 256)] S = .ok (.d (.int s)) (S.set 0 c3) := e3
    have m2 := h2 (.d (.int (i : Nat)))
    refine ⟨_, s, c3, trivial, hc3, rfl, ?_⟩
    clear h1 h2 m1 e1
    walk_at "ev*")
  exact ⟨p, c2, by omega, hc2, e2⟩
theorem x_recs {σ : Slots} (hc : NS c) (h1 : σ[1]? = some (some (.c 0))) (h2 : ∀ a, ((wipeA σ [10]).set 10 (some a))[1]? = some (some (.c 0))) : ∃ (rs : List Cd.Rec) (c' : Cell), rs.length ≤ 4 ∧ (∀ r ∈ rs, RcO r) ∧ NS c' ∧ mLc false [10] (pt1 10) (iRng1M (mCons (mCall m__law_next (mCons (mVar 1) (mCons (mC (.int 5)) mNil))) mNil)) mYes (mCall m__law_record (mCons (mVar 1) mNil)) σ (c :: J) = .ok (.d (.list (rs.map rD))) (c' :: J) := by
  obtain ⟨v, c1, hv, hc1, e1⟩ := x_nx (J := J) 5 hc (by decide) (by decide)
  have m1 : ∀ (σ : Slots) S, σ[1]? = some (some (.c 0)) → mVar 1 σ S = .ok (.c 0) S := fun σ S h => by unfold mVar; rw [h]
  obtain ⟨p, c2, hp, hP, hc2, e2⟩ := x_lcN (q := 0) (st := c1 :: J) (st1 := c :: J) (it := iRng1M (mCons (mCall m__law_next (mCons (mVar 1) (mCons (mC (.int 5)) mNil))) mNil)) (d := rD) (P := fun _ r => RcO r) (k := v) (vs := [10]) (pt := pt1 10) (f := mCall m__law_record (mCons (mVar 1) mNil)) (σ := σ) rfl hc1 (x_rng (f := mCall m__law_next (mCons (mVar 1) (mCons (mC (.int 5)) mNil))) (by
      have e1 : m__law_next [.c 0, .d (.int 5)] (c :: J) = _ := e1
      clear h2 m1
      walk_at "ev*") (by omega)) (by unfold SZ; omega) (fun i S c2 hi hS hc2 => by
    obtain ⟨s, c3, hs, hc3, e3⟩ := x_drec hS hc2
    have m2 := h2 (.d (.int (i : Nat)))
    refine ⟨_, s, c3, hs, hc3, rfl, ?_⟩
    clear h1 h2 m1 e1
    walk_at "ev*")
  refine ⟨p, c2, by omega, fun r hr => ?_, hc2, e2⟩
  obtain ⟨i, hi⟩ := List.getElem?_of_mem hr
  exact hP i r hi
end
/-- what is drawn as snapshots -/
def DrS (k : Nat) (ss : Snaps) : Prop := ss.length ≤ k ∧ (∀ s ∈ ss, NmO s.1 ∧ DrT 6 s.2) ∧ (ss.map (·.1)).Nodup
theorem DrS.put {k : Nat} {ss : Snaps} (h : DrS k ss) {n : Str} {ts : Cd.Things} (hn : NmO n) (ht : DrT 6 ts) : DrS (k + 1) (putA ss n ts) := by
  refine ⟨Nat.le_trans putA_len (Nat.succ_le_succ h.1), fun q hq => ?_, putA_nodup h.2.2⟩
  rcases putA_mem hq with hq | rfl
  · exact h.2.1 q hq
  · exact ⟨hn, ht⟩
theorem DrT.ok {ts : Cd.Things} (h : DrT 6 ts) : TsO ts := ⟨by have := h.1; omega, h.2.1⟩
theorem DrS.ok {ss : Snaps} (h : DrS 3 ss) : SnO ss := ⟨by have := h.1; omega, fun s hs => ⟨(h.2.1 s hs).1, (h.2.1 s hs).2.ok⟩⟩
theorem canT_nd {ts : Cd.Things} (h : (ts.map (·.1)).Nodup) : ((canT ts).map (·.1)).Nodup := by
  rw [canT_keys]
  exact (psort_perm _).nodup_iff.mpr h
theorem canS_nd {ss : Snaps} (h : (ss.map (·.1)).Nodup) : ((canS ss).map (·.1)).Nodup := by
  rw [canS_keys]
  exact (ssort_perm _).nodup_iff.mpr h
theorem wThings_ent (ts : Cd.Things) : Cd.wL ((canT ts).map Cd.wEnt) = wThings ts := by
  unfold canT wThings
  rw [List.map_map]
  rfl
theorem wSnaps_ent (ss : Snaps) : Cd.wL ((canS ss).map wSn) = wSnaps ss := by
  unfold canS wSnaps
  rw [List.map_map]
  refine congrArg Cd.wL (List.map_congr_left fun n _ => ?_)
  show Cd.wName n ++ Cd.wL ((canT (gS ss n)).map Cd.wEnt) = wSnap ss n
  rw [wThings_ent]
  rfl
theorem wImage_can (k : Nat) (ts : Cd.Things) (ss : Snaps) : wImage k (canT ts) (canS ss) = wImage k ts ss := by
  unfold wImage
  rw [canT_w, canS_w]
theorem x_image {k : Nat} {ts : Cd.Things} {ss : Snaps} (hk : k < Cd.N70) (h1 : DrT 6 ts) (h2 : DrS 3 ss) {st : Store} {r : Nat} {tail : List Nat} (hr : r < st.length) (hs : (wImage k ts ss ++ tail).length ≤ SZ) :
    ∃ J, m_Reader_read_image [.c r, .d (.int 9), .d (.int 64)] (st.set r (rdC (wImage k ts ss ++ tail) 0)) = .ok (.d (.tup [iN k, stD (canT ts) (canS ss)])) (st.set r (rdC (wImage k ts ss ++ tail) (wImage k ts ss).length) ++ J) := by
  have hd : (wImage k ts ss ++ tail).drop 0 = Cd.wN k ++ (Cd.wL ((canT ts).map Cd.wEnt) ++ (Cd.wL ((canS ss).map wSn) ++ tail)) := by
    rw [wThings_ent, wSnaps_ent, List.drop_zero]
    unfold wImage
    rw [List.append_assoc, List.append_assoc]
  obtain ⟨J, e⟩ := rd_image hk (canT_ok h1.ok).2 (canT_nd h1.2.2) (fun s hs => by
    obtain ⟨n, hn, rfl⟩ := List.mem_map.mp hs
    have := h2.2.1 _ (sn_mem hn).2
    exact ⟨this.1, (canT_ok this.2.ok).2, canT_nd this.2.2.2⟩) (canS_nd h2.2.2) hr hs hd
  refine ⟨J, ?_⟩
  rw [e, wThings_ent, wSnaps_ent]
  have : 0 + (Cd.wN k).length + (wThings ts).length + (wSnaps ss).length = (wImage k ts ss).length := by
    unfold wImage
    rw [List.length_append, List.length_append]
    omega
  rw [this]
end
end Lw
namespace Lw
open PySem PySem.Spec PyProof.Rows L2 Am
section
variable {P : Program} {w : World} {K : PySem.W.Frag} {mg : Str → Option Value} {base : Heap}
theorem N62 : (4611686018427387904 : Nat) < Cd.N70 := by decide
theorem x_law (ns : List Int) (hl : ns.length ≤ 63) : ∃ st', m_law [.d (scrI ns)] [] = .ok (.d (.bl true)) st' := by
  obtain ⟨c0, hc0e, hc0⟩ : ∃ c0 : Cell, c0 = .lst [.d (.list (ns.map D.int)), .d (.int 0), .d (.int 0), .d (.int 1)] ∧ NS c0 := ⟨_, rfl, ns, 0, 0, 1, rfl, hl⟩
  have L1 := gListA_scr ns hl
  obtain ⟨tail, c1, ht, hc1, e1⟩ := x_tail (J := []) (σ := [some (.d (scrI ns)), some (.c 0), none, none, none, none, none, none, none, none, none, none, none, none, none, none]) hc0 rfl (fun _ => rfl)
  obtain ⟨a, c2, ha, hc2, e2⟩ := x_big (q := 0) (st := [c1]) rfl hc1
  have e2 : m__law_big [.c 0] [c1] = .ok (.d (.int a)) [c2] := e2
  obtain ⟨u, c3, hu, hc3, e3⟩ := x_nx (J := []) 4 hc2 (by decide) (by decide)
  have e3 : m__law_next [.c 0, .d (.int 4)] [c2] = .ok (.d (.int u)) [c3] := e3
  obtain ⟨b, hb, e4⟩ : ∃ b : Nat, b < 4611686018427387904 ∧ atI [A.d (.int 127), A.d (.int 128), A.d (.int 16383), A.d (.int 16384)] (u : Int) = some (.d (.int b)) := by
    match u, hu with
    | 0, _ => exact ⟨127, by decide, rfl⟩
    | 1, _ => exact ⟨128, by decide, rfl⟩
    | 2, _ => exact ⟨16383, by decide, rfl⟩
    | 3, _ => exact ⟨16384, by decide, rfl⟩
  subst hc0e
  unfold m_law b_law
  walk_at "ev*"
  generalize ho : forA _ _ _ _ _ _ = o
  obtain ⟨σ1, st1, rfl, y3, J1, rfl, rfl⟩ := forL_nx ho (fun i σ t => ∃ (y3 : Option A) (J : Store), σ = [some (.d (scrI ns)), some (.c 0), some (.d (bL tail)), y3, none, none, none, none, none, none, none, none, none, none, none, none] ∧ t = c3 :: J)
    ⟨_, _, rfl, rfl⟩ (fun _ _ _ _ _ => by first | trivial | rfl) (fun i y σ t hy ⟨y3, J, q1, q2⟩ => by
      subst q1 q2
      obtain ⟨v, hv, rfl⟩ : ∃ v : Nat, v < 4611686018427387904 ∧ y = .d (.int v) := by
        rcases List.mem_cons.mp (List.mem_of_getElem? hy) with rfl | h
        · exact ⟨a, ha, rfl⟩
        · exact ⟨b, hb, List.mem_singleton.mp h⟩
      have hv7 := Nat.lt_trans hv N62
      have f1 := x_wnF hv7 (c3 :: J)
      have f2 := x_lnum hv7 (c3 :: (J ++ [.fz (bL (Cd.wN v))]))
      have l1 := Cd.wN_10 hv7
      have f3 := x_asks (lr_number (rd_number hv7)) (sm_i 7 _) (tail := tail) (by omega) (c3 :: (J ++ [.fz (bL (Cd.wN v))]))
      refine nxt_of (σ := [some (.d (scrI ns)), some (.c 0), some (.d (bL tail)), some (.d (.int v)), none, none, none, none, none, none, none, none, none, none, none, none]) (st := c3 :: (J ++ [.fz (bL (Cd.wN v))])) ?_ ⟨_, _, rfl, rfl⟩
      clear ho L1 e1 e2 e3 e4 hy hv hv7 l1 ht ha hb hu
      walk_at "ev*")
  clear ho L1 e1 e2 e3 e4
  obtain ⟨p, c4, hp, hc4, e4⟩ := x_somepath (q := 0) (st := c3 :: J1) rfl hc3
  have e4 : m__law_some_path [.c 0] (c3 :: J1) = .ok (.d (pD p)) (c4 :: J1) := e4
  have e5 := x_write_path hp (c4 :: J1)
  have e6 := x_lpath hp (c4 :: J1)
  have l1 := paO_len hp
  have e7 := x_asks (lr_path (rd_path hp)) (sm_p 6 hp) (tail := tail) (by omega) (c4 :: J1)
  obtain ⟨rs, c5, hrl, hrs, hc5, e8⟩ := x_recs (J := J1) (σ := [some (.d (scrI ns)), some (.c 0), some (.d (bL tail)), y3, some (.d (pD p)), none, none, none, none, none, none, none, none, none, none, none]) hc4 rfl (fun _ => rfl)
  clear hl hc0 hc1 hc2 hc3 hc4 l1 ha hb hu
  walk_at "ev*"
  generalize ho : forA _ _ _ _ _ _ = o
  obtain ⟨σ1, st1, rfl, y6, J2, rfl, rfl⟩ := forL_nx ho (fun i σ t => ∃ (y6 : Option A) (J : Store), σ = [some (.d (scrI ns)), some (.c 0), some (.d (bL tail)), y3, some (.d (pD p)), some (.d (.list (rs.map rD))), y6, none, none, none, none, none, none, none, none, none] ∧ t = c5 :: J)
    ⟨_, _, rfl, rfl⟩ (fun _ _ _ _ _ => by first | trivial | rfl) (fun i y σ t hy ⟨y6, J, q1, q2⟩ => by
      subst q1 q2
      obtain ⟨r, hr, rfl⟩ := dA_mem (List.mem_of_getElem? hy)
      have hr := hrs r hr
      obtain ⟨J', f1⟩ := x_write_record hr (c5 :: J)
      have f1 : m_write_record [.d (rD r)] (c5 :: J) = .ok (.d (bL (Cd.wRec r))) (c5 :: (J ++ J')) := f1
      have f2 := x_lrec hr (c5 :: (J ++ J'))
      have l1 := wRec_len hr
      have f3 := x_asks (lr_record (rd_record hr)) (sm_rec 4 hr) (tail := tail) (by omega) (c5 :: (J ++ J'))
      refine nxt_of (σ := [some (.d (scrI ns)), some (.c 0), some (.d (bL tail)), y3, some (.d (pD p)), some (.d (.list (rs.map rD))), some (.d (rD r)), none, none, none, none, none, none, none, none, none]) (st := c5 :: (J ++ J')) ?_ ⟨_, _, rfl, rfl⟩
      clear ho e4 e5 e6 e7 e8 hy hr l1 ht hrs hrl
      generalize rs.map rD = RS at *
      walk_at "ev*")
  clear ho e4 e5 e6 e7 e8
  have e9 : mLc false [6] (pt1 6) (iAnyM (mVar 5)) mYes (mCall m__law_record_code (mCons (mVar 6) mNil)) [some (.d (scrI ns)), some (.c 0), some (.d (bL tail)), y3, some (.d (pD p)), some (.d (.list (rs.map rD))), y6, none, none, none, none, none, none, none, none, none] (c5 :: J2) = .ok (.d (.list (lD (rs.map Cd.wRec)))) (c5 :: J2) := by
    rw [mLc_datJ (f := rD) (fun r => bL (Cd.wRec r)) (xs := rs) (st1 := c5 :: J2) (ok := fun s => viewS s (.d (.list (rs.map rD))) = some ((rs.map rD).map A.d)) (by
      rw [iAny_ap]
      rfl) (fun L => rfl) (by unfold SZ; omega) (fun r hr L => ⟨_, [], rfl, by
        rw [List.append_nil]
        exact x_lrec (hrs r hr) _⟩)]
    unfold lD
    rw [List.map_map]
    rfl
  have hgl := wL_len (f := Cd.wRec) (B := 210000) (xs := rs) (fun r hr => wRec_len (hrs r hr)) (Nat.lt_of_le_of_lt hrl (by decide))
  have e10 : m__law_listed [.d (.list (lD (rs.map Cd.wRec)))] (c5 :: J2) = .ok (.d (bL (Cd.wGroup rs))) (c5 :: J2) := x_llistedD (by rw [List.length_map]; exact Nat.lt_of_le_of_lt hrl (by decide)) (by unfold SZ; omega) _
  have e11 := gListA_list (rs.map rD) (by rw [List.length_map]; omega) (c5 :: J2)
  have e12 := x_write_group (st := c5 :: J2) (a := .d (.list (rs.map rD))) hrs (by omega) (fun _ => rfl)
  have e13 := x_asks (lr_group (rd_group hrs)) (sm_l (n := 7) (by omega) fun r hr => sm_rec 3 (hrs r hr)) (tail := tail) (show (Cd.wGroup rs).length + tail.length ≤ 1000000 by show (Cd.wL (rs.map Cd.wRec)).length + _ ≤ _; omega) (c5 :: J2)
  obtain ⟨ts, c6, hts, hc6, e14⟩ := x_dthings (q := 0) (st := c5 :: J2) rfl hc5
  have e14 : m__law_things [.c 0] (c5 :: J2) = .ok (.d (thD ts)) (c6 :: J2) := e14
  obtain ⟨v, c7, hv, hc7, e15⟩ := x_nx (J := J2 ++ [.dK []]) 4 hc6 (by decide) (by decide)
  have e15 : m__law_next [.c 0, .d (.int 4)] (c6 :: (J2 ++ [.dK []])) = .ok (.d (.int v)) (c7 :: (J2 ++ [.dK []])) := e15
  clear hrs hrl hgl
  generalize hRS : rs.map rD = RS at *
  generalize hWG : Cd.wGroup rs = WG at *
  generalize lD (rs.map Cd.wRec) = LW at *
  clear hRS hWG
  walk_at "ev*"
  generalize ho : forA _ _ _ _ _ _ = o
  have g1 : ∀ (c K : Cell), (c :: (J2 ++ [K]))[J2.length + 1]? = some K := fun c K => by
    rw [List.getElem?_cons_succ]
    exact loc_get0 _ _
  have g2 : ∀ (c K K2 : Cell), (c :: (J2 ++ [K])).set (J2.length + 1) K2 = c :: (J2 ++ [K2]) := fun c K K2 => by
    rw [List.set_cons_succ, loc_set0]
    rfl
  obtain ⟨σ1, st1, rfl, y10, ss, c8, rfl, rfl, hc8, hss⟩ := forR_nx (n := v) ho (fun i σ t => ∃ (y10 : Option A) (ss : Snaps) (c : Cell), σ = [some (.d (scrI ns)), some (.c 0), some (.d (bL tail)), y3, some (.d (pD p)), some (.d (.list RS)), y6, some (.d (bL WG)), some (.d (thD ts)), some (.c (J2.length + 1)), y10, none, none, none, none, none] ∧ t = c :: (J2 ++ [.dK (kvS ss)]) ∧ NS c ∧ DrS i ss)
    ⟨_, [], c7, rfl, rfl, hc7, Nat.le_refl _, (fun _ h => nomatch h), List.nodup_nil⟩ (fun _ _ _ _ _ => trivial) (fun i σ t hi ⟨y10, ss, c, q1, q2, hc, hD⟩ => by
      subst q1 q2
      obtain ⟨ts', c', hts', hc', f1⟩ := x_dthings (q := 0) (st := c :: (J2 ++ [.dK (kvS ss)])) rfl hc
      have f1 : m__law_things [.c 0] (c :: (J2 ++ [.dK (kvS ss)])) = .ok (.d (thD ts')) (c' :: (J2 ++ [.dK (kvS ss)])) := f1
      obtain ⟨nm, c'', hnm, hc'', f2⟩ := x_word (q := 0) (st := c' :: (J2 ++ [.dK (kvS ss)])) rfl hc'
      have f2 : m__law_word [.c 0] (c' :: (J2 ++ [.dK (kvS ss)])) = .ok (.d (.str nm)) (c'' :: (J2 ++ [.dK (kvS ss)])) := f2
      have l1 : (kvS ss).length < SZ := by have := hD.1; rw [List.length_map]; unfold SZ; omega
      have f3 := fun v σ => sub3_Ks (y := .d (.str nm)) (g1 c'' (.dK (kvS ss))) rfl l1 v σ
      have f4 : putA (kvS ss) (.inr nm) (.d (thD ts')) = kvS (putA ss nm ts') := putA_map (κ' := Key) Sum.inr inr_inj (fun t => A.d (thD t)) nm ts' ss
      refine nxt_of (σ := [some (.d (scrI ns)), some (.c 0), some (.d (bL tail)), y3, some (.d (pD p)), some (.d (.list RS)), y6, some (.d (bL WG)), some (.d (thD ts)), some (.c (J2.length + 1)), some (.d (.int (0 + (i : Nat)))), none, none, none, none, none]) (st := c'' :: (J2 ++ [.dK (kvS (putA ss nm ts'))])) ?_ ⟨_, _, _, rfl, rfl, hc'', hD.put hnm hts'⟩
      clear ho e9 e10 e11 e12 e13 e14 e15 hi hD hts' hts hnm l1 hv ht
      generalize kvS (putA ss nm ts') = K2 at *
      generalize kvS ss = K1 at *
      generalize J2.length + 1 = q9 at *
      walk_at "ev*")
  clear ho e9 e10 e11 e12 e13 e14 e15
  have hss : DrS 3 ss := ⟨by have := hss.1; omega, hss.2⟩
  have hv9 : ∀ (c : Cell) (L : Store), viewK (c :: (J2 ++ [.dK (kvS ss)]) ++ L) (.c (J2.length + 1)) = some (kvS ss) := fun c L => by
    rw [viewK_c, List.getElem?_append_left (by rw [List.length_cons, List.length_append, List.length_singleton]; omega), g1]
  have hPl : (J2 ++ [Cell.dK (kvS ss)]).length = J2.length + 1 := by rw [List.length_append]; rfl
  clear g1 g2
  generalize J2 ++ [Cell.dK (kvS ss)] = P at *
  generalize J2.length + 1 = q9 at *
  obtain ⟨k, c9, hk, hc9, e16⟩ := x_big (q := 0) (st := c8 :: P) rfl hc8
  have e16 : m__law_big [.c 0] (c8 :: P) = .ok (.d (.int k)) (c9 :: P) := e16
  have hk7 := Nat.lt_trans hk N62
  have e17 := x_limage hk7 hts.ok hss.ok (g := .c q9) (st := c9 :: P) (hv9 c9)
  have wl : (wImage k ts ss).length + tail.length ≤ 1000000 := by
    have a1 := Cd.wN_10 hk7
    have a2 := wThings_len hts.ok
    have a3 := wSnaps_len hss.ok
    unfold wImage
    rw [List.length_append, List.length_append]
    omega
  have a1 := gAdd_bL (wImage k ts ss) tail (c9 :: P) (by unfold SZ; omega)
  have wl2 : (wImage k ts ss ++ tail).length ≤ SZ := by rw [List.length_append]; unfold SZ; omega
  have e18 := x_rinit (S := c9 :: P) (L := q9 + 1) (by rw [List.length_cons, hPl]) wl2
  have e18 : m_Reader___init__ [.c (q9 + 1), .d (bL (wImage k ts ss ++ tail))] (c9 :: (P ++ [.ins "Reader" []])) = .ok (.d .non) (c9 :: (P ++ [rdC (wImage k ts ss ++ tail) 0])) := e18
  have hset : ∀ a b : Cell, (c9 :: (P ++ [a])).set (q9 + 1) b = c9 :: (P ++ [b]) := fun a b => by
    subst hPl
    rw [List.set_cons_succ, loc_set0]
    rfl
  obtain ⟨J3, e19⟩ := x_image (tail := tail) hk7 hts hss (st := c9 :: (P ++ [rdC (wImage k ts ss ++ tail) 0])) (r := q9 + 1) (by rw [List.length_cons, List.length_append, hPl]; exact Nat.lt_succ_self _) wl2
  rw [hset, hset] at e19
  have g0 : (c9 :: (P ++ [rdC (wImage k ts ss ++ tail) 0]))[q9 + 1]? = some (rdC (wImage k ts ss ++ tail) 0) := by
    subst hPl
    rw [List.getElem?_cons_succ]
    exact loc_get0 _ _
  obtain ⟨Z, hZ⟩ : ∃ Z, c9 :: (P ++ [rdC (wImage k ts ss ++ tail) (wImage k ts ss).length]) ++ J3 = Z := ⟨_, rfl⟩
  have z1 : Z[q9 + 1]? = some (rdC (wImage k ts ss ++ tail) (wImage k ts ss).length) := by
    subst hZ hPl
    rw [List.getElem?_append_left (by rw [List.length_cons, List.length_append]; exact Nat.succ_lt_succ (Nat.lt_succ_self _)), List.getElem?_cons_succ]
    exact loc_get0 _ _
  have z2 : ∀ L, viewK (Z ++ L) (.c q9) = some (kvS ss) := fun L => by
    subst hZ
    have := hv9 c9 ([rdC (wImage k ts ss ++ tail) (wImage k ts ss).length] ++ (J3 ++ L))
    rw [show c9 :: (P ++ [rdC (wImage k ts ss ++ tail) (wImage k ts ss).length]) ++ J3 ++ L = c9 :: P ++ ([rdC (wImage k ts ss ++ tail) (wImage k ts ss).length] ++ (J3 ++ L)) by simp]
    exact this
  rw [hZ] at e19
  have z3 := x_ends (st := Z) (r := q9 + 1) (xs := wImage k ts ss ++ tail) (n := (wImage k ts ss).length) (tail := tail) (RelS.lt z1) (by rw [List.length_append])
  rw [set_same z1] at z3
  have z20 : viewK Z (.c q9) = some (kvS ss) := by simpa using z2 []
  have f1 : gIsi "tuple" (.d (.tup [iN k, stD (canT ts) (canS ss)])) Z = .ok (.d (.bl true)) Z := gIsi_t Z rfl kbs.2.2.2.2.2.2.2.2.2.2.2.2.2.2.1
  have f2 : m__law_same [.d (.int k), .d (.int k)] Z = .ok (.d (.bl true)) Z := x_same 8 _ Z trivial
  have f3 : decide (((2 : Nat) : Int) ≠ 2) = false := rfl
  have hs1 := list_snV ss z20 (by have := hss.1; omega)
  have hs2 := sort_sD (ss.map (·.1)) Z (by rw [List.length_map]; have := hss.1; omega)
  have f4 : mLc false [15] (pt1 15) (iAnyM (mCallB (gSortA false) (mCons (mCallB (gListA false) (mCons (mVar 9) mNil)) mNil))) mYes (mTup (mCons (mVar 15) (mCons (mCall m__law_item_list (mCons (mBin gIx (mVar 9) (mVar 15)) mNil)) mNil)))
      [some (.d (scrI ns)), some (.c 0), some (.d (bL tail)), y3, some (.d (pD p)), some (.d (.list RS)), y6, some (.d (bL (wImage k ts ss))), some (.d (thD ts)), some (.c q9), y10, some (.d (.int k)), some (.c (q9 + 1)), some (.d (.tup [iN k, stD (canT ts) (canS ss)])), none, none] Z = .ok (.d (.list ((ksS ss).map fun n => .tup [.str n, itD (gS ss n)]))) Z := by
    rw [mLc_datJ (f := D.str) (fun n => .tup [.str n, itD (gS ss n)]) (xs := ksS ss) (st1 := Z) (ok := fun s => viewS s (.d (.list ((ksS ss).map D.str))) = some (((ksS ss).map D.str).map A.d)) (by
      rw [iAny_ap]
      clear e16 e17 e18 e19 hZ z1 z2 z3 z20 f1 f2 hset hv9 a1 wl wl2 hk hk7 hts hss g0
      walk_at "ev*") (fun L => rfl) (by rw [sn_len]; have := hss.1; unfold SZ; omega) (fun n hn L => by
        have hq : NmO n ∧ TsO (gS ss n) := hss.ok.2 _ (sn_mem hn).2
        refine ⟨[some (.d (scrI ns)), some (.c 0), some (.d (bL tail)), y3, some (.d (pD p)), some (.d (.list RS)), y6, some (.d (bL (wImage k ts ss))), some (.d (thD ts)), some (.c q9), y10, some (.d (.int k)), some (.c (q9 + 1)), some (.d (.tup [iN k, stD (canT ts) (canS ss)])), none, some (.d (.str n))], [], rfl, ?_⟩
        have e4 := x_litems (ts := gS ss n) (by have := hq.2.1; omega) (Z ++ L)
        have e6 := ix_snV hn (z2 L)
        clear e16 e17 e18 e19 hZ z1 z2 z3 z20 f1 f2 hset hv9 a1 wl wl2 hk hk7 hts hss g0 hs1 hs2 hq hn
        walk_at "ev*")]
  have f5 := len_ok (f := fun n => D.tup [.str n, itD (gS ss n)]) (xs := ksS ss) (by rw [sn_len]; have := hss.1; omega)
  have f6 : gIsC "State" (.d (stD (canT ts) (canS ss))) Z = .ok (.d (.bl true)) Z := by
    unfold gIsC
    rw [stD_view]
    rfl
  have f7 := x_state_data (canT_ok hts.ok) (canS_ok hss.ok) Z
  rw [canT_it, canS_ls] at f7
  have hv := stD_view (canT ts) (canS ss)
  have f8 := x_litems (ts := ts) (by have := hts.1; omega) Z
  have f9 : m__law_same [.d (.tup [itD ts, lsD ss]), .d (.tup [itD ts, lsD ss])] Z = .ok (.d (.bl true)) Z := x_same 8 _ Z (sm_2 (sm_it 2 hts.ok) (sm_ls 0 hss.ok))
  have f10 : m__law_same [.d (.int ((wImage k ts ss).length : Nat)), .d (.int ((wImage k ts ss).length : Nat))] Z = .ok (.d (.bl true)) Z := x_same 8 _ Z trivial
  obtain ⟨J4, f11⟩ := x_write_image hk7 (canT_ok hts.ok) (canS_ok hss.ok) Z
  rw [wImage_can] at f11
  have f12 : m__law_same [.d (bL (wImage k ts ss)), .d (bL (wImage k ts ss))] (Z ++ J4) = .ok (.d (.bl true)) (Z ++ J4) := x_same 8 _ _ (sm_l (n := 7) (by omega) fun _ _ => trivial)
  have hx : ∀ S, exitR 2 [] (.d (.bl true)) S = .ok (.d (.bl true)) [] := fun S => exit2_d (.bl true) [] S
  have f13 : D.tup ((ksS ss).map fun n => .tup [.str n, itD (gS ss n)]) = lsD ss := rfl
  clear hs1 hs2 z2 z20 hv9 wl wl2 hk hk7 hts hss hset hZ ht hp hc8 hc9 hc7 hc6 hc5
  generalize hST : stD (canT ts) (canS ss) = ST at *
  generalize hX : wImage k ts ss ++ tail = X at *
  generalize hW : wImage k ts ss = W at *
  generalize lsD ss = LS at *
  generalize itD ts = IT at *
  generalize (ksS ss).map (fun n => D.tup [.str n, itD (gS ss n)]) = KS at *
  clear hST hX hW
  refine ⟨[], ?_⟩
  walk_at "ev*"
end
end Lw
namespace Lw
open PySem PySem.Spec PyProof.Rows L2 Am
section
variable {P : Program} {w : World} {K : PySem.W.Frag} {mg : Str → Option Value} {base : Heap}
/-- the law's own promise -/
def spLaw (K : PySem.W.Frag) : Sp := fun vs H Q _ => ∃ (a : Addr) (ns : List Int), vs = [.ref a] ∧ SqL K H a (ns.map V.int) ∧ ns.length ≤ 63 ∧ ∀ H', Q (.bl true) H'
theorem drs_ints (c : Am.Ctx) (G : Hp) : ∀ ns : List Int, DRs c G (ns.map D.int) (ns.map V.int)
  | [] => rfl
  | n :: ns => ⟨_, _, rfl, rfl, drs_ints c G ns⟩
theorem law_own {lev : Nat} {ps : List Str} {f : MF} (h : Rw.Has P w K mg base (L2.CX P w) lev "law" ps (spM ⟨K, mg⟩ f)) (x : ∀ ns : List Int, ns.length ≤ 63 → ∃ st, f [.d (.scr (ns.map D.int))] [] = .ok (.d (.bl true)) st) : Rw.Has P w K mg base (L2.CX P w) lev "law" ps (spLaw K) :=
  h.imp fun vs H Q E ⟨a, ns, e, hS, hl, q⟩ => by
    subst e
    obtain ⟨st, ex⟩ := x ns hl
    refine ⟨⟨H, fun _ => 0⟩, [], [.d (.scr (ns.map D.int))], ⟨Same.refl _, fun i _ hi => absurd hi (Nat.not_lt_zero i), fun i _ hi => by cases hi⟩, .cons ⟨a, ns.map V.int, rfl, hS, drs_ints _ _ ns⟩ .nil, ?_⟩
    rw [ex]
    intro v w1 H1 _ _ ra
    have : v = .bl true := ra
    rw [this]
    exact q H1
end
end Lw
namespace Lw
open PySem PySem.Spec PyProof.Rows L2 Am
section
variable {P : Program} {w : World} {K : PySem.W.Frag} {mg : Str → Option Value} {base : Heap}
theorem has_lawL (T : Txt K mg) : Rw.Has P w K mg base (L2.CX P w) 10 "law" ["_law_script"] (spLaw K) := law_own (has_law T) x_law
end
end Lw
namespace Lw
open PySem PySem.Spec PyProof.Rows L2 Rw Fld
theorem txt_mk {K : PySem.W.Frag} {h : Heap} {mg : Str → Option Value} (X : K.In h) (G : h.Ns mainGlobals mg)
    {C100001 : Addr} {C100002 : Addr} {C100003 : Addr} {C100004 : Addr} {f100005 : Addr} {od100005 an100005 : Option Addr} {sl100005 : Array (Option Value)} {oc100005 kV100005 dc100005 pm100005 cd100005 ct100005 : Value} {f100006 : Addr} {od100006 an100006 : Option Addr} {sl100006 : Array (Option Value)} {oc100006 kV100006 dc100006 pm100006 cd100006 ct100006 : Value} {f100007 : Addr} {od100007 an100007 : Option Addr} {sl100007 : Array (Option Value)} {oc100007 kV100007 dc100007 pm100007 cd100007 ct100007 : Value} {f100008 : Addr} {od100008 an100008 : Option Addr} {sl100008 : Array (Option Value)} {oc100008 kV100008 dc100008 pm100008 cd100008 ct100008 : Value} {f100009 : Addr} {od100009 an100009 : Option Addr} {sl100009 : Array (Option Value)} {oc100009 kV100009 dc100009 pm100009 cd100009 ct100009 : Value} {f100010 : Addr} {od100010 an100010 : Option Addr} {sl100010 : Array (Option Value)} {oc100010 kV100010 dc100010 pm100010 cd100010 ct100010 : Value} {f100011 : Addr} {od100011 an100011 : Option Addr} {sl100011 : Array (Option Value)} {oc100011 kV100011 dc100011 pm100011 cd100011 ct100011 : Value} {f100012 : Addr} {od100012 an100012 : Option Addr} {sl100012 : Array (Option Value)} {oc100012 kV100012 dc100012 pm100012 cd100012 ct100012 : Value} {f100013 : Addr} {od100013 an100013 : Option Addr} {sl100013 : Array (Option Value)} {oc100013 kV100013 dc100013 pm100013 cd100013 ct100013 : Value} {f100014 : Addr} {od100014 an100014 : Option Addr} {sl100014 : Array (Option Value)} {oc100014 kV100014 dc100014 pm100014 cd100014 ct100014 : Value} {f100015 : Addr} {od100015 an100015 : Option Addr} {sl100015 : Array (Option Value)} {oc100015 kV100015 dc100015 pm100015 cd100015 ct100015 : Value} {f100016 : Addr} {od100016 an100016 : Option Addr} {sl100016 : Array (Option Value)} {oc100016 kV100016 dc100016 pm100016 cd100016 ct100016 : Value} {f100017 : Addr} {od100017 an100017 : Option Addr} {sl100017 : Array (Option Value)} {oc100017 kV100017 dc100017 pm100017 cd100017 ct100017 : Value} {f100018 : Addr} {od100018 an100018 : Option Addr} {sl100018 : Array (Option Value)} {oc100018 kV100018 dc100018 pm100018 cd100018 ct100018 : Value} {f100019 : Addr} {od100019 an100019 : Option Addr} {sl100019 : Array (Option Value)} {oc100019 kV100019 dc100019 pm100019 cd100019 ct100019 : Value} {f100020 : Addr} {od100020 an100020 : Option Addr} {sl100020 : Array (Option Value)} {oc100020 kV100020 dc100020 pm100020 cd100020 ct100020 : Value} {f100021 : Addr} {od100021 an100021 : Option Addr} {sl100021 : Array (Option Value)} {oc100021 kV100021 dc100021 pm100021 cd100021 ct100021 : Value} {f100022 : Addr} {od100022 an100022 : Option Addr} {sl100022 : Array (Option Value)} {oc100022 kV100022 dc100022 pm100022 cd100022 ct100022 : Value} {f100023 : Addr} {od100023 an100023 : Option Addr} {sl100023 : Array (Option Value)} {oc100023 kV100023 dc100023 pm100023 cd100023 ct100023 : Value} {f100024 : Addr} {od100024 an100024 : Option Addr} {sl100024 : Array (Option Value)} {oc100024 kV100024 dc100024 pm100024 cd100024 ct100024 : Value} {ia100051 : Addr} {in100051 : Nat} {isl100051 : Array (Option Value)} {it100051_0 : Tok} {it100051_1 : Tok} {it100051_2 : Tok} {it100051_3 : Tok} {it100051_4 : Tok} {it100051_5 : Tok} {it100051_6 : Tok} {it100051_7 : Tok} {it100051_8 : Tok} {a100051 : Addr} {od100051 : Option Addr} {n100051 : Nat} {sl100051 : Array (Option Value)} {t100051_0 : Tok} {t100051_1 : Tok} {t100051_2 : Tok} {t100051_3 : Tok} {t100051_4 : Tok} {t100051_5 : Tok} {t100051_6 : Tok} {t100051_7 : Tok} {t100051_8 : Tok} {t100052 : Tok} {t100053 : Tok} {f100054 : Addr} {od100054 an100054 : Option Addr} {sl100054 : Array (Option Value)} {oc100054 kV100054 dc100054 pm100054 cd100054 ct100054 : Value} {f100055 : Addr} {od100055 an100055 : Option Addr} {sl100055 : Array (Option Value)} {oc100055 kV100055 dc100055 pm100055 cd100055 ct100055 : Value} {f100056 : Addr} {od100056 an100056 : Option Addr} {sl100056 : Array (Option Value)} {oc100056 kV100056 dc100056 pm100056 cd100056 ct100056 : Value} {f100057 : Addr} {od100057 an100057 : Option Addr} {sl100057 : Array (Option Value)} {oc100057 kV100057 dc100057 pm100057 cd100057 ct100057 : Value} {f100058 : Addr} {od100058 an100058 : Option Addr} {sl100058 : Array (Option Value)} {oc100058 kV100058 dc100058 pm100058 cd100058 ct100058 : Value} {f100059 : Addr} {od100059 an100059 : Option Addr} {sl100059 : Array (Option Value)} {oc100059 kV100059 dc100059 pm100059 cd100059 ct100059 : Value} {f100060 : Addr} {od100060 an100060 : Option Addr} {sl100060 : Array (Option Value)} {oc100060 kV100060 dc100060 pm100060 cd100060 ct100060 : Value} {f100061 : Addr} {od100061 an100061 : Option Addr} {sl100061 : Array (Option Value)} {oc100061 kV100061 dc100061 pm100061 cd100061 ct100061 : Value} {f100062 : Addr} {od100062 an100062 : Option Addr} {sl100062 : Array (Option Value)} {oc100062 kV100062 dc100062 pm100062 cd100062 ct100062 : Value} {f100063 : Addr} {od100063 an100063 : Option Addr} {sl100063 : Array (Option Value)} {oc100063 kV100063 dc100063 pm100063 cd100063 ct100063 : Value} {f100064 : Addr} {od100064 an100064 : Option Addr} {sl100064 : Array (Option Value)} {oc100064 kV100064 dc100064 pm100064 cd100064 ct100064 : Value} {f100065 : Addr} {od100065 an100065 : Option Addr} {sl100065 : Array (Option Value)} {oc100065 kV100065 dc100065 pm100065 cd100065 ct100065 : Value} {f100066 : Addr} {od100066 an100066 : Option Addr} {sl100066 : Array (Option Value)} {oc100066 kV100066 dc100066 pm100066 cd100066 ct100066 : Value} {f100067 : Addr} {od100067 an100067 : Option Addr} {sl100067 : Array (Option Value)} {oc100067 kV100067 dc100067 pm100067 cd100067 ct100067 : Value} {f100068 : Addr} {od100068 an100068 : Option Addr} {sl100068 : Array (Option Value)} {oc100068 kV100068 dc100068 pm100068 cd100068 ct100068 : Value} {f100069 : Addr} {od100069 an100069 : Option Addr} {sl100069 : Array (Option Value)} {oc100069 kV100069 dc100069 pm100069 cd100069 ct100069 : Value} {f100070 : Addr} {od100070 an100070 : Option Addr} {sl100070 : Array (Option Value)} {oc100070 kV100070 dc100070 pm100070 cd100070 ct100070 : Value} {f100071 : Addr} {od100071 an100071 : Option Addr} {sl100071 : Array (Option Value)} {oc100071 kV100071 dc100071 pm100071 cd100071 ct100071 : Value} {f100072 : Addr} {od100072 an100072 : Option Addr} {sl100072 : Array (Option Value)} {oc100072 kV100072 dc100072 pm100072 cd100072 ct100072 : Value} {f100073 : Addr} {od100073 an100073 : Option Addr} {sl100073 : Array (Option Value)} {oc100073 kV100073 dc100073 pm100073 cd100073 ct100073 : Value} {f100074 : Addr} {od100074 an100074 : Option Addr} {sl100074 : Array (Option Value)} {oc100074 kV100074 dc100074 pm100074 cd100074 ct100074 : Value} {f100075 : Addr} {od100075 an100075 : Option Addr} {sl100075 : Array (Option Value)} {oc100075 kV100075 dc100075 pm100075 cd100075 ct100075 : Value} {f100076 : Addr} {od100076 an100076 : Option Addr} {sl100076 : Array (Option Value)} {oc100076 kV100076 dc100076 pm100076 cd100076 ct100076 : Value} {f100077 : Addr} {od100077 an100077 : Option Addr} {sl100077 : Array (Option Value)} {oc100077 kV100077 dc100077 pm100077 cd100077 ct100077 : Value} {f100078 : Addr} {od100078 an100078 : Option Addr} {sl100078 : Array (Option Value)} {oc100078 kV100078 dc100078 pm100078 cd100078 ct100078 : Value} {f100079 : Addr} {od100079 an100079 : Option Addr} {sl100079 : Array (Option Value)} {oc100079 kV100079 dc100079 pm100079 cd100079 ct100079 : Value} {f100080 : Addr} {od100080 an100080 : Option Addr} {sl100080 : Array (Option Value)} {oc100080 kV100080 dc100080 pm100080 cd100080 ct100080 : Value} {f100081 : Addr} {od100081 an100081 : Option Addr} {sl100081 : Array (Option Value)} {oc100081 kV100081 dc100081 pm100081 cd100081 ct100081 : Value} {f100082 : Addr} {od100082 an100082 : Option Addr} {sl100082 : Array (Option Value)} {oc100082 kV100082 dc100082 pm100082 cd100082 ct100082 : Value} {f100083 : Addr} {od100083 an100083 : Option Addr} {sl100083 : Array (Option Value)} {oc100083 kV100083 dc100083 pm100083 cd100083 ct100083 : Value} {f100084 : Addr} {od100084 an100084 : Option Addr} {sl100084 : Array (Option Value)} {oc100084 kV100084 dc100084 pm100084 cd100084 ct100084 : Value}
    (aC100001 : PySem.W.nsIn K mainGlobals "RotError" = some (some (.ref C100001))) (xe100001 : PySem.W.excIn K C100001 [.type "ValueError", .type "Exception", .type "BaseException", .type "object"] "ValueError.__new__" = true) (kc100001 : PySem.W.keepIn K (.ref C100001) = true) (sb100001 : PySem.W.subIn K (.ref C100001) (.type "BaseException") = some true) (ty100001 : PySem.W.typeIn K (.ref C100001) = some (.type "type")) (ic100001 : PySem.W.isClsIn K C100001 = true) (aC100002 : PySem.W.nsIn K mainGlobals "DamagedData" = some (some (.ref C100002))) (xe100002 : PySem.W.excIn K C100002 [.type "ValueError", .type "Exception", .type "BaseException", .type "object"] "ValueError.__new__" = true) (kc100002 : PySem.W.keepIn K (.ref C100002) = true) (sb100002 : PySem.W.subIn K (.ref C100002) (.type "BaseException") = some true) (ty100002 : PySem.W.typeIn K (.ref C100002) = some (.type "type")) (ic100002 : PySem.W.isClsIn K C100002 = true) (aC100003 : PySem.W.nsIn K mainGlobals "State" = some (some (.ref C100003))) (pg100003 : PySem.W.plainGet K C100003 Str.empty = true) (hd100003 : PySem.W.hasDictIn K C100003 = true) (po100003 : PySem.W.plainOver K C100003 = true) (sa100003 : PySem.W.findIn K (.ref C100003) "__setattr__" = some (some (.builtin "object.__setattr__"))) (mk100003 : PySem.W.makesIn K C100003 = true) (kc100003 : PySem.W.keepIn K (.ref C100003) = true) (aC100004 : PySem.W.nsIn K mainGlobals "Reader" = some (some (.ref C100004))) (pg100004 : PySem.W.plainGet K C100004 Str.empty = true) (hd100004 : PySem.W.hasDictIn K C100004 = true) (po100004 : PySem.W.plainOver K C100004 = true) (sa100004 : PySem.W.findIn K (.ref C100004) "__setattr__" = some (some (.builtin "object.__setattr__"))) (mk100004 : PySem.W.makesIn K C100004 = true) (kc100004 : PySem.W.keepIn K (.ref C100004) = true) (a100005 : PySem.W.findIn K (.ref C100003) "__init__" = some (some (.ref f100005))) (i100005 : PySem.W.isFn K (.ref f100005) = true) (l100005 : K.lookup f100005 = some ⟨oc100005, od100005, .func (PySem.W.fnOf "__init__" "State.__init__" (defArgs (inClass (topS 6) 0)) (defBody (inClass (topS 6) 0)) (defScope (inClass (topS 6) 0)) .none kV100005 dc100005 pm100005 an100005 cd100005 ct100005), sl100005⟩) (c100005 : PySem.W.codeIn K cd100005 "State.__init__" = true) (k100005 : PySem.W.keepIn K (.ref f100005) = true) (a100006 : PySem.W.findIn K (.ref C100003) "copy" = some (some (.ref f100006))) (i100006 : PySem.W.isFn K (.ref f100006) = true) (l100006 : K.lookup f100006 = some ⟨oc100006, od100006, .func (PySem.W.fnOf "copy" "State.copy" (defArgs (inClass (topS 6) 1)) (defBody (inClass (topS 6) 1)) (defScope (inClass (topS 6) 1)) .none kV100006 dc100006 pm100006 an100006 cd100006 ct100006), sl100006⟩) (c100006 : PySem.W.codeIn K cd100006 "State.copy" = true) (k100006 : PySem.W.keepIn K (.ref f100006) = true) (a100007 : PySem.W.findIn K (.ref C100003) "used" = some (some (.ref f100007))) (i100007 : PySem.W.isFn K (.ref f100007) = true) (l100007 : K.lookup f100007 = some ⟨oc100007, od100007, .func (PySem.W.fnOf "used" "State.used" (defArgs (inClass (topS 6) 2)) (defBody (inClass (topS 6) 2)) (defScope (inClass (topS 6) 2)) .none kV100007 dc100007 pm100007 an100007 cd100007 ct100007), sl100007⟩) (c100007 : PySem.W.codeIn K cd100007 "State.used" = true) (k100007 : PySem.W.keepIn K (.ref f100007) = true) (a100008 : PySem.W.findIn K (.ref C100003) "after" = some (some (.ref f100008))) (i100008 : PySem.W.isFn K (.ref f100008) = true) (l100008 : K.lookup f100008 = some ⟨oc100008, od100008, .func (PySem.W.fnOf "after" "State.after" (defArgs (inClass (topS 6) 3)) (defBody (inClass (topS 6) 3)) (defScope (inClass (topS 6) 3)) .none kV100008 dc100008 pm100008 an100008 cd100008 ct100008), sl100008⟩) (c100008 : PySem.W.codeIn K cd100008 "State.after" = true) (k100008 : PySem.W.keepIn K (.ref f100008) = true) (a100009 : PySem.W.findIn K (.ref C100003) "data" = some (some (.ref f100009))) (i100009 : PySem.W.isFn K (.ref f100009) = true) (l100009 : K.lookup f100009 = some ⟨oc100009, od100009, .func (PySem.W.fnOf "data" "State.data" (defArgs (inClass (topS 6) 4)) (defBody (inClass (topS 6) 4)) (defScope (inClass (topS 6) 4)) .none kV100009 dc100009 pm100009 an100009 cd100009 ct100009), sl100009⟩) (c100009 : PySem.W.codeIn K cd100009 "State.data" = true) (k100009 : PySem.W.keepIn K (.ref f100009) = true) (a100010 : PySem.W.findIn K (.ref C100004) "__init__" = some (some (.ref f100010))) (i100010 : PySem.W.isFn K (.ref f100010) = true) (l100010 : K.lookup f100010 = some ⟨oc100010, od100010, .func (PySem.W.fnOf "__init__" "Reader.__init__" (defArgs (inClass (topS 21) 0)) (defBody (inClass (topS 21) 0)) (defScope (inClass (topS 21) 0)) .none kV100010 dc100010 pm100010 an100010 cd100010 ct100010), sl100010⟩) (c100010 : PySem.W.codeIn K cd100010 "Reader.__init__" = true) (k100010 : PySem.W.keepIn K (.ref f100010) = true) (a100011 : PySem.W.findIn K (.ref C100004) "read_byte" = some (some (.ref f100011))) (i100011 : PySem.W.isFn K (.ref f100011) = true) (l100011 : K.lookup f100011 = some ⟨oc100011, od100011, .func (PySem.W.fnOf "read_byte" "Reader.read_byte" (defArgs (inClass (topS 21) 1)) (defBody (inClass (topS 21) 1)) (defScope (inClass (topS 21) 1)) .none kV100011 dc100011 pm100011 an100011 cd100011 ct100011), sl100011⟩) (c100011 : PySem.W.codeIn K cd100011 "Reader.read_byte" = true) (k100011 : PySem.W.keepIn K (.ref f100011) = true) (a100012 : PySem.W.findIn K (.ref C100004) "read_choice" = some (some (.ref f100012))) (i100012 : PySem.W.isFn K (.ref f100012) = true) (l100012 : K.lookup f100012 = some ⟨oc100012, od100012, .func (PySem.W.fnOf "read_choice" "Reader.read_choice" (defArgs (inClass (topS 21) 2)) (defBody (inClass (topS 21) 2)) (defScope (inClass (topS 21) 2)) .none kV100012 dc100012 pm100012 an100012 cd100012 ct100012), sl100012⟩) (c100012 : PySem.W.codeIn K cd100012 "Reader.read_choice" = true) (k100012 : PySem.W.keepIn K (.ref f100012) = true) (a100013 : PySem.W.findIn K (.ref C100004) "read_number" = some (some (.ref f100013))) (i100013 : PySem.W.isFn K (.ref f100013) = true) (l100013 : K.lookup f100013 = some ⟨oc100013, od100013, .func (PySem.W.fnOf "read_number" "Reader.read_number" (defArgs (inClass (topS 21) 3)) (defBody (inClass (topS 21) 3)) (defScope (inClass (topS 21) 3)) .none kV100013 dc100013 pm100013 an100013 cd100013 ct100013), sl100013⟩) (c100013 : PySem.W.codeIn K cd100013 "Reader.read_number" = true) (k100013 : PySem.W.keepIn K (.ref f100013) = true) (a100014 : PySem.W.findIn K (.ref C100004) "read_count" = some (some (.ref f100014))) (i100014 : PySem.W.isFn K (.ref f100014) = true) (l100014 : K.lookup f100014 = some ⟨oc100014, od100014, .func (PySem.W.fnOf "read_count" "Reader.read_count" (defArgs (inClass (topS 21) 4)) (defBody (inClass (topS 21) 4)) (defScope (inClass (topS 21) 4)) .none kV100014 dc100014 pm100014 an100014 cd100014 ct100014), sl100014⟩) (c100014 : PySem.W.codeIn K cd100014 "Reader.read_count" = true) (k100014 : PySem.W.keepIn K (.ref f100014) = true) (a100015 : PySem.W.findIn K (.ref C100004) "read_numbers" = some (some (.ref f100015))) (i100015 : PySem.W.isFn K (.ref f100015) = true) (l100015 : K.lookup f100015 = some ⟨oc100015, od100015, .func (PySem.W.fnOf "read_numbers" "Reader.read_numbers" (defArgs (inClass (topS 21) 5)) (defBody (inClass (topS 21) 5)) (defScope (inClass (topS 21) 5)) .none kV100015 dc100015 pm100015 an100015 cd100015 ct100015), sl100015⟩) (c100015 : PySem.W.codeIn K cd100015 "Reader.read_numbers" = true) (k100015 : PySem.W.keepIn K (.ref f100015) = true) (a100016 : PySem.W.findIn K (.ref C100004) "read_name" = some (some (.ref f100016))) (i100016 : PySem.W.isFn K (.ref f100016) = true) (l100016 : K.lookup f100016 = some ⟨oc100016, od100016, .func (PySem.W.fnOf "read_name" "Reader.read_name" (defArgs (inClass (topS 21) 6)) (defBody (inClass (topS 21) 6)) (defScope (inClass (topS 21) 6)) .none kV100016 dc100016 pm100016 an100016 cd100016 ct100016), sl100016⟩) (c100016 : PySem.W.codeIn K cd100016 "Reader.read_name" = true) (k100016 : PySem.W.keepIn K (.ref f100016) = true) (a100017 : PySem.W.findIn K (.ref C100004) "read_path" = some (some (.ref f100017))) (i100017 : PySem.W.isFn K (.ref f100017) = true) (l100017 : K.lookup f100017 = some ⟨oc100017, od100017, .func (PySem.W.fnOf "read_path" "Reader.read_path" (defArgs (inClass (topS 21) 7)) (defBody (inClass (topS 21) 7)) (defScope (inClass (topS 21) 7)) .none kV100017 dc100017 pm100017 an100017 cd100017 ct100017), sl100017⟩) (c100017 : PySem.W.codeIn K cd100017 "Reader.read_path" = true) (k100017 : PySem.W.keepIn K (.ref f100017) = true) (a100018 : PySem.W.findIn K (.ref C100004) "read_pair" = some (some (.ref f100018))) (i100018 : PySem.W.isFn K (.ref f100018) = true) (l100018 : K.lookup f100018 = some ⟨oc100018, od100018, .func (PySem.W.fnOf "read_pair" "Reader.read_pair" (defArgs (inClass (topS 21) 8)) (defBody (inClass (topS 21) 8)) (defScope (inClass (topS 21) 8)) .none kV100018 dc100018 pm100018 an100018 cd100018 ct100018), sl100018⟩) (c100018 : PySem.W.codeIn K cd100018 "Reader.read_pair" = true) (k100018 : PySem.W.keepIn K (.ref f100018) = true) (a100019 : PySem.W.findIn K (.ref C100004) "read_record" = some (some (.ref f100019))) (i100019 : PySem.W.isFn K (.ref f100019) = true) (l100019 : K.lookup f100019 = some ⟨oc100019, od100019, .func (PySem.W.fnOf "read_record" "Reader.read_record" (defArgs (inClass (topS 21) 9)) (defBody (inClass (topS 21) 9)) (defScope (inClass (topS 21) 9)) .none kV100019 dc100019 pm100019 an100019 cd100019 ct100019), sl100019⟩) (c100019 : PySem.W.codeIn K cd100019 "Reader.read_record" = true) (k100019 : PySem.W.keepIn K (.ref f100019) = true) (a100020 : PySem.W.findIn K (.ref C100004) "read_group" = some (some (.ref f100020))) (i100020 : PySem.W.isFn K (.ref f100020) = true) (l100020 : K.lookup f100020 = some ⟨oc100020, od100020, .func (PySem.W.fnOf "read_group" "Reader.read_group" (defArgs (inClass (topS 21) 10)) (defBody (inClass (topS 21) 10)) (defScope (inClass (topS 21) 10)) .none kV100020 dc100020 pm100020 an100020 cd100020 ct100020), sl100020⟩) (c100020 : PySem.W.codeIn K cd100020 "Reader.read_group" = true) (k100020 : PySem.W.keepIn K (.ref f100020) = true) (a100021 : PySem.W.findIn K (.ref C100004) "read_thing" = some (some (.ref f100021))) (i100021 : PySem.W.isFn K (.ref f100021) = true) (l100021 : K.lookup f100021 = some ⟨oc100021, od100021, .func (PySem.W.fnOf "read_thing" "Reader.read_thing" (defArgs (inClass (topS 21) 11)) (defBody (inClass (topS 21) 11)) (defScope (inClass (topS 21) 11)) .none kV100021 dc100021 pm100021 an100021 cd100021 ct100021), sl100021⟩) (c100021 : PySem.W.codeIn K cd100021 "Reader.read_thing" = true) (k100021 : PySem.W.keepIn K (.ref f100021) = true) (a100022 : PySem.W.findIn K (.ref C100004) "read_things" = some (some (.ref f100022))) (i100022 : PySem.W.isFn K (.ref f100022) = true) (l100022 : K.lookup f100022 = some ⟨oc100022, od100022, .func (PySem.W.fnOf "read_things" "Reader.read_things" (defArgs (inClass (topS 21) 12)) (defBody (inClass (topS 21) 12)) (defScope (inClass (topS 21) 12)) .none kV100022 dc100022 pm100022 an100022 cd100022 ct100022), sl100022⟩) (c100022 : PySem.W.codeIn K cd100022 "Reader.read_things" = true) (k100022 : PySem.W.keepIn K (.ref f100022) = true) (a100023 : PySem.W.findIn K (.ref C100004) "read_image" = some (some (.ref f100023))) (i100023 : PySem.W.isFn K (.ref f100023) = true) (l100023 : K.lookup f100023 = some ⟨oc100023, od100023, .func (PySem.W.fnOf "read_image" "Reader.read_image" (defArgs (inClass (topS 21) 13)) (defBody (inClass (topS 21) 13)) (defScope (inClass (topS 21) 13)) .none kV100023 dc100023 pm100023 an100023 cd100023 ct100023), sl100023⟩) (c100023 : PySem.W.codeIn K cd100023 "Reader.read_image" = true) (k100023 : PySem.W.keepIn K (.ref f100023) = true) (a100024 : PySem.W.findIn K (.ref C100004) "end" = some (some (.ref f100024))) (i100024 : PySem.W.isFn K (.ref f100024) = true) (l100024 : K.lookup f100024 = some ⟨oc100024, od100024, .func (PySem.W.fnOf "end" "Reader.end" (defArgs (inClass (topS 21) 14)) (defBody (inClass (topS 21) 14)) (defScope (inClass (topS 21) 14)) .none kV100024 dc100024 pm100024 an100024 cd100024 ct100024), sl100024⟩) (c100024 : PySem.W.codeIn K cd100024 "Reader.end" = true) (k100024 : PySem.W.keepIn K (.ref f100024) = true) (n100030 : PySem.W.findIn K (.ref C100003) "block" = some none) (n100029 : PySem.W.findIn K (.ref C100003) "snapshots" = some none) (n100028 : PySem.W.findIn K (.ref C100003) "stripes" = some none) (n100027 : PySem.W.findIn K (.ref C100003) "things" = some none) (n100026 : PySem.W.findIn K (.ref C100004) "at" = some none) (n100025 : PySem.W.findIn K (.ref C100004) "data" = some none) (eq100032 : PySem.W.subIn K (.ref C100002) (.ref C100001) = some true) (eq100031 : PySem.W.subIn K (.ref C100001) (.ref C100001) = some true) (ja100033 : PySem.W.findIn K (.ref C100003) "__class__" = some (some (.builtin "object.__class__"))) (jn100033 : PySem.W.specialIn K (.builtin "object.__class__") "__get__" = some (some (.builtin "getset_descriptor.__get__"))) (jt100033 : PySem.W.takesIn K (.builtin "object.__class__") = some true) (jm100033 : PySem.W.mroIn K C100003 (.type "object") = some true) (hn100034 : PySem.W.specialIn K (.builtin "object.__class__") "__get__" = some (some (.builtin "getset_descriptor.__get__"))) (ht100034 : PySem.W.takesIn K (.builtin "object.__class__") = some true) (eg100035 : PySem.W.findIn K (.ref C100002) "__getattribute__" = some (some (.builtin "BaseException.__getattribute__"))) (ek100035 : PySem.W.findIn K (.ref C100002) "__getattr__" = some none) (ed100035 : PySem.W.hasDictIn K C100002 = true) (ea100035 : PySem.W.findIn K (.ref C100002) "__class__" = some (some (.builtin "object.__class__"))) (em100035 : PySem.W.mroIn K C100002 (.type "object") = some true) (eg100036 : PySem.W.findIn K (.ref C100001) "__getattribute__" = some (some (.builtin "BaseException.__getattribute__"))) (ek100036 : PySem.W.findIn K (.ref C100001) "__getattr__" = some none) (ed100036 : PySem.W.hasDictIn K C100001 = true) (ea100036 : PySem.W.findIn K (.ref C100001) "__class__" = some (some (.builtin "object.__class__"))) (em100036 : PySem.W.mroIn K C100001 (.type "object") = some true) (es100037 : PySem.W.subIn K (.ref C100001) (.type "ValueError") = some true) (en100037 : PySem.W.nsIn K mainGlobals "ValueError" = some none) (es100038 : PySem.W.subIn K (.ref C100002) (.type "ValueError") = some true) (en100038 : PySem.W.nsIn K mainGlobals "ValueError" = some none) (es100039 : PySem.W.subIn K (.ref C100002) (.ref C100002) = some true) (q100040 : PySem.W.nsIn K mainGlobals "ValueError" = some none) (q100041 : PySem.W.nsIn K mainGlobals "bool" = some none) (q100042 : PySem.W.nsIn K mainGlobals "int" = some none) (q100043 : PySem.W.nsIn K mainGlobals "isinstance" = some none) (q100044 : PySem.W.nsIn K mainGlobals "len" = some none) (q100045 : PySem.W.nsIn K mainGlobals "list" = some none) (q100046 : PySem.W.nsIn K mainGlobals "ord" = some none) (q100047 : PySem.W.nsIn K mainGlobals "range" = some none) (q100048 : PySem.W.nsIn K mainGlobals "sorted" = some none) (q100049 : PySem.W.nsIn K mainGlobals "str" = some none) (q100050 : PySem.W.nsIn K mainGlobals "tuple" = some none) (iq100051 : PySem.W.nsIn K mainGlobals "WORDS" = some (some (.ref ia100051))) (il100051 : K.lookup ia100051 = some ⟨.type "tuple", none, .seq #[.str "folder" it100051_0, .str "file" it100051_1, .str "put" it100051_2, .str "trim" it100051_3, .str "move" it100051_4, .str "drop" it100051_5, .str "snap" it100051_6, .str "forget" it100051_7, .str "back" it100051_8] in100051, isl100051⟩) (q100051 : PySem.W.nsIn K mainGlobals "WORDS" = some (some (.ref a100051))) (l100051 : K.lookup a100051 = some ⟨.type "tuple", od100051, .seq #[.str "folder" t100051_0, .str "file" t100051_1, .str "put" t100051_2, .str "trim" t100051_3, .str "move" t100051_4, .str "drop" t100051_5, .str "snap" t100051_6, .str "forget" t100051_7, .str "back" t100051_8] n100051, sl100051⟩) (q100052 : PySem.W.nsIn K mainGlobals "LETTERS" = some (some (.str "abcdefghijklmnopqrstuvwxyz0123456789_" t100052))) (q100053 : PySem.W.nsIn K mainGlobals "NUMBER_BYTES" = some (some (.int 10 t100053))) (a100054 : PySem.W.nsIn K mainGlobals "_wall" = some (some (.ref f100054))) (l100054 : K.lookup f100054 = some ⟨oc100054, od100054, .func (PySem.W.fnOf "_wall" "_wall" (defArgs (topS 0)) (defBody (topS 0)) (defScope (topS 0)) .none kV100054 dc100054 pm100054 an100054 cd100054 ct100054), sl100054⟩) (c100054 : PySem.W.codeIn K cd100054 "_wall" = true) (k100054 : PySem.W.keepIn K (.ref f100054) = true) (a100055 : PySem.W.nsIn K mainGlobals "sorted_things" = some (some (.ref f100055))) (l100055 : K.lookup f100055 = some ⟨oc100055, od100055, .func (PySem.W.fnOf "sorted_things" "sorted_things" (defArgs (topS 5)) (defBody (topS 5)) (defScope (topS 5)) .none kV100055 dc100055 pm100055 an100055 cd100055 ct100055), sl100055⟩) (c100055 : PySem.W.codeIn K cd100055 "sorted_things" = true) (k100055 : PySem.W.keepIn K (.ref f100055) = true) (a100056 : PySem.W.nsIn K mainGlobals "write_number" = some (some (.ref f100056))) (l100056 : K.lookup f100056 = some ⟨oc100056, od100056, .func (PySem.W.fnOf "write_number" "write_number" (defArgs (topS 11)) (defBody (topS 11)) (defScope (topS 11)) .none kV100056 dc100056 pm100056 an100056 cd100056 ct100056), sl100056⟩) (c100056 : PySem.W.codeIn K cd100056 "write_number" = true) (k100056 : PySem.W.keepIn K (.ref f100056) = true) (a100057 : PySem.W.nsIn K mainGlobals "write_list" = some (some (.ref f100057))) (l100057 : K.lookup f100057 = some ⟨oc100057, od100057, .func (PySem.W.fnOf "write_list" "write_list" (defArgs (topS 12)) (defBody (topS 12)) (defScope (topS 12)) .none kV100057 dc100057 pm100057 an100057 cd100057 ct100057), sl100057⟩) (c100057 : PySem.W.codeIn K cd100057 "write_list" = true) (k100057 : PySem.W.keepIn K (.ref f100057) = true) (a100058 : PySem.W.nsIn K mainGlobals "write_numbers" = some (some (.ref f100058))) (l100058 : K.lookup f100058 = some ⟨oc100058, od100058, .func (PySem.W.fnOf "write_numbers" "write_numbers" (defArgs (topS 13)) (defBody (topS 13)) (defScope (topS 13)) .none kV100058 dc100058 pm100058 an100058 cd100058 ct100058), sl100058⟩) (c100058 : PySem.W.codeIn K cd100058 "write_numbers" = true) (k100058 : PySem.W.keepIn K (.ref f100058) = true) (a100059 : PySem.W.nsIn K mainGlobals "write_name" = some (some (.ref f100059))) (l100059 : K.lookup f100059 = some ⟨oc100059, od100059, .func (PySem.W.fnOf "write_name" "write_name" (defArgs (topS 14)) (defBody (topS 14)) (defScope (topS 14)) .none kV100059 dc100059 pm100059 an100059 cd100059 ct100059), sl100059⟩) (c100059 : PySem.W.codeIn K cd100059 "write_name" = true) (k100059 : PySem.W.keepIn K (.ref f100059) = true) (a100060 : PySem.W.nsIn K mainGlobals "write_path" = some (some (.ref f100060))) (l100060 : K.lookup f100060 = some ⟨oc100060, od100060, .func (PySem.W.fnOf "write_path" "write_path" (defArgs (topS 15)) (defBody (topS 15)) (defScope (topS 15)) .none kV100060 dc100060 pm100060 an100060 cd100060 ct100060), sl100060⟩) (c100060 : PySem.W.codeIn K cd100060 "write_path" = true) (k100060 : PySem.W.keepIn K (.ref f100060) = true) (a100061 : PySem.W.nsIn K mainGlobals "write_thing" = some (some (.ref f100061))) (l100061 : K.lookup f100061 = some ⟨oc100061, od100061, .func (PySem.W.fnOf "write_thing" "write_thing" (defArgs (topS 16)) (defBody (topS 16)) (defScope (topS 16)) .none kV100061 dc100061 pm100061 an100061 cd100061 ct100061), sl100061⟩) (c100061 : PySem.W.codeIn K cd100061 "write_thing" = true) (k100061 : PySem.W.keepIn K (.ref f100061) = true) (a100062 : PySem.W.nsIn K mainGlobals "write_things" = some (some (.ref f100062))) (l100062 : K.lookup f100062 = some ⟨oc100062, od100062, .func (PySem.W.fnOf "write_things" "write_things" (defArgs (topS 17)) (defBody (topS 17)) (defScope (topS 17)) .none kV100062 dc100062 pm100062 an100062 cd100062 ct100062), sl100062⟩) (c100062 : PySem.W.codeIn K cd100062 "write_things" = true) (k100062 : PySem.W.keepIn K (.ref f100062) = true) (a100063 : PySem.W.nsIn K mainGlobals "write_record" = some (some (.ref f100063))) (l100063 : K.lookup f100063 = some ⟨oc100063, od100063, .func (PySem.W.fnOf "write_record" "write_record" (defArgs (topS 18)) (defBody (topS 18)) (defScope (topS 18)) .none kV100063 dc100063 pm100063 an100063 cd100063 ct100063), sl100063⟩) (c100063 : PySem.W.codeIn K cd100063 "write_record" = true) (k100063 : PySem.W.keepIn K (.ref f100063) = true) (a100064 : PySem.W.nsIn K mainGlobals "write_group" = some (some (.ref f100064))) (l100064 : K.lookup f100064 = some ⟨oc100064, od100064, .func (PySem.W.fnOf "write_group" "write_group" (defArgs (topS 19)) (defBody (topS 19)) (defScope (topS 19)) .none kV100064 dc100064 pm100064 an100064 cd100064 ct100064), sl100064⟩) (c100064 : PySem.W.codeIn K cd100064 "write_group" = true) (k100064 : PySem.W.keepIn K (.ref f100064) = true) (a100065 : PySem.W.nsIn K mainGlobals "write_image" = some (some (.ref f100065))) (l100065 : K.lookup f100065 = some ⟨oc100065, od100065, .func (PySem.W.fnOf "write_image" "write_image" (defArgs (topS 20)) (defBody (topS 20)) (defScope (topS 20)) .none kV100065 dc100065 pm100065 an100065 cd100065 ct100065), sl100065⟩) (c100065 : PySem.W.codeIn K cd100065 "write_image" = true) (k100065 : PySem.W.keepIn K (.ref f100065) = true) (a100066 : PySem.W.nsIn K mainGlobals "_law_next" = some (some (.ref f100066))) (l100066 : K.lookup f100066 = some ⟨oc100066, od100066, .func (PySem.W.fnOf "_law_next" "_law_next" (defArgs (topS 23)) (defBody (topS 23)) (defScope (topS 23)) .none kV100066 dc100066 pm100066 an100066 cd100066 ct100066), sl100066⟩) (c100066 : PySem.W.codeIn K cd100066 "_law_next" = true) (k100066 : PySem.W.keepIn K (.ref f100066) = true) (a100067 : PySem.W.nsIn K mainGlobals "_law_same" = some (some (.ref f100067))) (l100067 : K.lookup f100067 = some ⟨oc100067, od100067, .func (PySem.W.fnOf "_law_same" "_law_same" (defArgs (topS 24)) (defBody (topS 24)) (defScope (topS 24)) .none kV100067 dc100067 pm100067 an100067 cd100067 ct100067), sl100067⟩) (c100067 : PySem.W.codeIn K cd100067 "_law_same" = true) (k100067 : PySem.W.keepIn K (.ref f100067) = true) (a100068 : PySem.W.nsIn K mainGlobals "_law_number" = some (some (.ref f100068))) (l100068 : K.lookup f100068 = some ⟨oc100068, od100068, .func (PySem.W.fnOf "_law_number" "_law_number" (defArgs (topS 25)) (defBody (topS 25)) (defScope (topS 25)) .none kV100068 dc100068 pm100068 an100068 cd100068 ct100068), sl100068⟩) (c100068 : PySem.W.codeIn K cd100068 "_law_number" = true) (k100068 : PySem.W.keepIn K (.ref f100068) = true) (a100069 : PySem.W.nsIn K mainGlobals "_law_listed" = some (some (.ref f100069))) (l100069 : K.lookup f100069 = some ⟨oc100069, od100069, .func (PySem.W.fnOf "_law_listed" "_law_listed" (defArgs (topS 26)) (defBody (topS 26)) (defScope (topS 26)) .none kV100069 dc100069 pm100069 an100069 cd100069 ct100069), sl100069⟩) (c100069 : PySem.W.codeIn K cd100069 "_law_listed" = true) (k100069 : PySem.W.keepIn K (.ref f100069) = true) (a100070 : PySem.W.nsIn K mainGlobals "_law_name_code" = some (some (.ref f100070))) (l100070 : K.lookup f100070 = some ⟨oc100070, od100070, .func (PySem.W.fnOf "_law_name_code" "_law_name_code" (defArgs (topS 27)) (defBody (topS 27)) (defScope (topS 27)) .none kV100070 dc100070 pm100070 an100070 cd100070 ct100070), sl100070⟩) (c100070 : PySem.W.codeIn K cd100070 "_law_name_code" = true) (k100070 : PySem.W.keepIn K (.ref f100070) = true) (a100071 : PySem.W.nsIn K mainGlobals "_law_path_code" = some (some (.ref f100071))) (l100071 : K.lookup f100071 = some ⟨oc100071, od100071, .func (PySem.W.fnOf "_law_path_code" "_law_path_code" (defArgs (topS 28)) (defBody (topS 28)) (defScope (topS 28)) .none kV100071 dc100071 pm100071 an100071 cd100071 ct100071), sl100071⟩) (c100071 : PySem.W.codeIn K cd100071 "_law_path_code" = true) (k100071 : PySem.W.keepIn K (.ref f100071) = true) (a100072 : PySem.W.nsIn K mainGlobals "_law_things_code" = some (some (.ref f100072))) (l100072 : K.lookup f100072 = some ⟨oc100072, od100072, .func (PySem.W.fnOf "_law_things_code" "_law_things_code" (defArgs (topS 29)) (defBody (topS 29)) (defScope (topS 29)) .none kV100072 dc100072 pm100072 an100072 cd100072 ct100072), sl100072⟩) (c100072 : PySem.W.codeIn K cd100072 "_law_things_code" = true) (k100072 : PySem.W.keepIn K (.ref f100072) = true) (a100073 : PySem.W.nsIn K mainGlobals "_law_record_code" = some (some (.ref f100073))) (l100073 : K.lookup f100073 = some ⟨oc100073, od100073, .func (PySem.W.fnOf "_law_record_code" "_law_record_code" (defArgs (topS 30)) (defBody (topS 30)) (defScope (topS 30)) .none kV100073 dc100073 pm100073 an100073 cd100073 ct100073), sl100073⟩) (c100073 : PySem.W.codeIn K cd100073 "_law_record_code" = true) (k100073 : PySem.W.keepIn K (.ref f100073) = true) (a100074 : PySem.W.nsIn K mainGlobals "_law_image_code" = some (some (.ref f100074))) (l100074 : K.lookup f100074 = some ⟨oc100074, od100074, .func (PySem.W.fnOf "_law_image_code" "_law_image_code" (defArgs (topS 31)) (defBody (topS 31)) (defScope (topS 31)) .none kV100074 dc100074 pm100074 an100074 cd100074 ct100074), sl100074⟩) (c100074 : PySem.W.codeIn K cd100074 "_law_image_code" = true) (k100074 : PySem.W.keepIn K (.ref f100074) = true) (a100075 : PySem.W.nsIn K mainGlobals "_law_word" = some (some (.ref f100075))) (l100075 : K.lookup f100075 = some ⟨oc100075, od100075, .func (PySem.W.fnOf "_law_word" "_law_word" (defArgs (topS 32)) (defBody (topS 32)) (defScope (topS 32)) .none kV100075 dc100075 pm100075 an100075 cd100075 ct100075), sl100075⟩) (c100075 : PySem.W.codeIn K cd100075 "_law_word" = true) (k100075 : PySem.W.keepIn K (.ref f100075) = true) (a100076 : PySem.W.nsIn K mainGlobals "_law_some_path" = some (some (.ref f100076))) (l100076 : K.lookup f100076 = some ⟨oc100076, od100076, .func (PySem.W.fnOf "_law_some_path" "_law_some_path" (defArgs (topS 33)) (defBody (topS 33)) (defScope (topS 33)) .none kV100076 dc100076 pm100076 an100076 cd100076 ct100076), sl100076⟩) (c100076 : PySem.W.codeIn K cd100076 "_law_some_path" = true) (k100076 : PySem.W.keepIn K (.ref f100076) = true) (a100077 : PySem.W.nsIn K mainGlobals "_law_big" = some (some (.ref f100077))) (l100077 : K.lookup f100077 = some ⟨oc100077, od100077, .func (PySem.W.fnOf "_law_big" "_law_big" (defArgs (topS 34)) (defBody (topS 34)) (defScope (topS 34)) .none kV100077 dc100077 pm100077 an100077 cd100077 ct100077), sl100077⟩) (c100077 : PySem.W.codeIn K cd100077 "_law_big" = true) (k100077 : PySem.W.keepIn K (.ref f100077) = true) (a100078 : PySem.W.nsIn K mainGlobals "_law_record" = some (some (.ref f100078))) (l100078 : K.lookup f100078 = some ⟨oc100078, od100078, .func (PySem.W.fnOf "_law_record" "_law_record" (defArgs (topS 35)) (defBody (topS 35)) (defScope (topS 35)) .none kV100078 dc100078 pm100078 an100078 cd100078 ct100078), sl100078⟩) (c100078 : PySem.W.codeIn K cd100078 "_law_record" = true) (k100078 : PySem.W.keepIn K (.ref f100078) = true) (a100079 : PySem.W.nsIn K mainGlobals "_law_things" = some (some (.ref f100079))) (l100079 : K.lookup f100079 = some ⟨oc100079, od100079, .func (PySem.W.fnOf "_law_things" "_law_things" (defArgs (topS 36)) (defBody (topS 36)) (defScope (topS 36)) .none kV100079 dc100079 pm100079 an100079 cd100079 ct100079), sl100079⟩) (c100079 : PySem.W.codeIn K cd100079 "_law_things" = true) (k100079 : PySem.W.keepIn K (.ref f100079) = true) (a100080 : PySem.W.nsIn K mainGlobals "_law_item_list" = some (some (.ref f100080))) (l100080 : K.lookup f100080 = some ⟨oc100080, od100080, .func (PySem.W.fnOf "_law_item_list" "_law_item_list" (defArgs (topS 37)) (defBody (topS 37)) (defScope (topS 37)) .none kV100080 dc100080 pm100080 an100080 cd100080 ct100080), sl100080⟩) (c100080 : PySem.W.codeIn K cd100080 "_law_item_list" = true) (k100080 : PySem.W.keepIn K (.ref f100080) = true) (a100081 : PySem.W.nsIn K mainGlobals "_law_ends" = some (some (.ref f100081))) (l100081 : K.lookup f100081 = some ⟨oc100081, od100081, .func (PySem.W.fnOf "_law_ends" "_law_ends" (defArgs (topS 38)) (defBody (topS 38)) (defScope (topS 38)) .none kV100081 dc100081 pm100081 an100081 cd100081 ct100081), sl100081⟩) (c100081 : PySem.W.codeIn K cd100081 "_law_ends" = true) (k100081 : PySem.W.keepIn K (.ref f100081) = true) (a100082 : PySem.W.nsIn K mainGlobals "_law_read" = some (some (.ref f100082))) (l100082 : K.lookup f100082 = some ⟨oc100082, od100082, .func (PySem.W.fnOf "_law_read" "_law_read" (defArgs (topS 39)) (defBody (topS 39)) (defScope (topS 39)) .none kV100082 dc100082 pm100082 an100082 cd100082 ct100082), sl100082⟩) (c100082 : PySem.W.codeIn K cd100082 "_law_read" = true) (k100082 : PySem.W.keepIn K (.ref f100082) = true) (a100083 : PySem.W.nsIn K mainGlobals "_law_asks" = some (some (.ref f100083))) (l100083 : K.lookup f100083 = some ⟨oc100083, od100083, .func (PySem.W.fnOf "_law_asks" "_law_asks" (defArgs (topS 40)) (defBody (topS 40)) (defScope (topS 40)) .none kV100083 dc100083 pm100083 an100083 cd100083 ct100083), sl100083⟩) (c100083 : PySem.W.codeIn K cd100083 "_law_asks" = true) (k100083 : PySem.W.keepIn K (.ref f100083) = true) (a100084 : PySem.W.nsIn K mainGlobals "law" = some (some (.ref f100084))) (l100084 : K.lookup f100084 = some ⟨oc100084, od100084, .func (PySem.W.fnOf "law" "law" (defArgs (topS 41)) (defBody (topS 41)) (defScope (topS 41)) .none kV100084 dc100084 pm100084 an100084 cd100084 ct100084), sl100084⟩) (c100084 : PySem.W.codeIn K cd100084 "law" = true) (k100084 : PySem.W.keepIn K (.ref f100084) = true) : Txt K mg where
  x_RotError := ⟨_, _, _, _, _, PySem.F.excBase_ValueError, xe100001, PySem.W.mg_of X G aC100001, kc100001, sb100001, ty100001⟩
  x_DamagedData := ⟨_, _, _, _, _, PySem.F.excBase_ValueError, xe100002, PySem.W.mg_of X G aC100002, kc100002, sb100002, ty100002⟩
  mk_State := ⟨_, PySem.W.mg_of X G aC100003, mk100003, kc100003⟩
  mk_Reader := ⟨_, PySem.W.mg_of X G aC100004, mk100004, kc100004⟩
  State___init__ := ⟨_, _, _, PySem.W.mg_of X G aC100003, ⟨pg100003, hd100003, po100003, sa100003⟩, ⟨a100005, i100005, k100005⟩, fun_mk (st := (inClass (topS 6) 0)) l100005 c100005 k100005, (fun_mk (st := (inClass (topS 6) 0)) l100005 c100005 k100005).binds (ps := ["self", "stripes", "block"]) fun _ _ _ _ _ _ us hl => match us, hl with | [_, _, _], _ => rfl⟩
  State_copy := ⟨_, _, _, PySem.W.mg_of X G aC100003, ⟨pg100003, hd100003, po100003, sa100003⟩, ⟨a100006, i100006, k100006⟩, fun_mk (st := (inClass (topS 6) 1)) l100006 c100006 k100006, (fun_mk (st := (inClass (topS 6) 1)) l100006 c100006 k100006).binds (ps := ["self"]) fun _ _ _ _ _ _ us hl => match us, hl with | [_], _ => rfl⟩
  State_used := ⟨_, _, _, PySem.W.mg_of X G aC100003, ⟨pg100003, hd100003, po100003, sa100003⟩, ⟨a100007, i100007, k100007⟩, fun_mk (st := (inClass (topS 6) 2)) l100007 c100007 k100007, (fun_mk (st := (inClass (topS 6) 2)) l100007 c100007 k100007).binds (ps := ["self"]) fun _ _ _ _ _ _ us hl => match us, hl with | [_], _ => rfl⟩
  State_after := ⟨_, _, _, PySem.W.mg_of X G aC100003, ⟨pg100003, hd100003, po100003, sa100003⟩, ⟨a100008, i100008, k100008⟩, fun_mk (st := (inClass (topS 6) 3)) l100008 c100008 k100008, (fun_mk (st := (inClass (topS 6) 3)) l100008 c100008 k100008).binds (ps := ["self", "record"]) fun _ _ _ _ _ _ us hl => match us, hl with | [_, _], _ => rfl⟩
  State_data := ⟨_, _, _, PySem.W.mg_of X G aC100003, ⟨pg100003, hd100003, po100003, sa100003⟩, ⟨a100009, i100009, k100009⟩, fun_mk (st := (inClass (topS 6) 4)) l100009 c100009 k100009, (fun_mk (st := (inClass (topS 6) 4)) l100009 c100009 k100009).binds (ps := ["self"]) fun _ _ _ _ _ _ us hl => match us, hl with | [_], _ => rfl⟩
  Reader___init__ := ⟨_, _, _, PySem.W.mg_of X G aC100004, ⟨pg100004, hd100004, po100004, sa100004⟩, ⟨a100010, i100010, k100010⟩, fun_mk (st := (inClass (topS 21) 0)) l100010 c100010 k100010, (fun_mk (st := (inClass (topS 21) 0)) l100010 c100010 k100010).binds (ps := ["self", "data"]) fun _ _ _ _ _ _ us hl => match us, hl with | [_, _], _ => rfl⟩
  Reader_read_byte := ⟨_, _, _, PySem.W.mg_of X G aC100004, ⟨pg100004, hd100004, po100004, sa100004⟩, ⟨a100011, i100011, k100011⟩, fun_mk (st := (inClass (topS 21) 1)) l100011 c100011 k100011, (fun_mk (st := (inClass (topS 21) 1)) l100011 c100011 k100011).binds (ps := ["self"]) fun _ _ _ _ _ _ us hl => match us, hl with | [_], _ => rfl⟩
  Reader_read_choice := ⟨_, _, _, PySem.W.mg_of X G aC100004, ⟨pg100004, hd100004, po100004, sa100004⟩, ⟨a100012, i100012, k100012⟩, fun_mk (st := (inClass (topS 21) 2)) l100012 c100012 k100012, (fun_mk (st := (inClass (topS 21) 2)) l100012 c100012 k100012).binds (ps := ["self", "count"]) fun _ _ _ _ _ _ us hl => match us, hl with | [_, _], _ => rfl⟩
  Reader_read_number := ⟨_, _, _, PySem.W.mg_of X G aC100004, ⟨pg100004, hd100004, po100004, sa100004⟩, ⟨a100013, i100013, k100013⟩, fun_mk (st := (inClass (topS 21) 3)) l100013 c100013 k100013, (fun_mk (st := (inClass (topS 21) 3)) l100013 c100013 k100013).binds (ps := ["self"]) fun _ _ _ _ _ _ us hl => match us, hl with | [_], _ => rfl⟩
  Reader_read_count := ⟨_, _, _, PySem.W.mg_of X G aC100004, ⟨pg100004, hd100004, po100004, sa100004⟩, ⟨a100014, i100014, k100014⟩, fun_mk (st := (inClass (topS 21) 4)) l100014 c100014 k100014, (fun_mk (st := (inClass (topS 21) 4)) l100014 c100014 k100014).binds (ps := ["self"]) fun _ _ _ _ _ _ us hl => match us, hl with | [_], _ => rfl⟩
  Reader_read_numbers := ⟨_, _, _, PySem.W.mg_of X G aC100004, ⟨pg100004, hd100004, po100004, sa100004⟩, ⟨a100015, i100015, k100015⟩, fun_mk (st := (inClass (topS 21) 5)) l100015 c100015 k100015, (fun_mk (st := (inClass (topS 21) 5)) l100015 c100015 k100015).binds (ps := ["self"]) fun _ _ _ _ _ _ us hl => match us, hl with | [_], _ => rfl⟩
  Reader_read_name := ⟨_, _, _, PySem.W.mg_of X G aC100004, ⟨pg100004, hd100004, po100004, sa100004⟩, ⟨a100016, i100016, k100016⟩, fun_mk (st := (inClass (topS 21) 6)) l100016 c100016 k100016, (fun_mk (st := (inClass (topS 21) 6)) l100016 c100016 k100016).binds (ps := ["self"]) fun _ _ _ _ _ _ us hl => match us, hl with | [_], _ => rfl⟩
  Reader_read_path := ⟨_, _, _, PySem.W.mg_of X G aC100004, ⟨pg100004, hd100004, po100004, sa100004⟩, ⟨a100017, i100017, k100017⟩, fun_mk (st := (inClass (topS 21) 7)) l100017 c100017 k100017, (fun_mk (st := (inClass (topS 21) 7)) l100017 c100017 k100017).binds (ps := ["self"]) fun _ _ _ _ _ _ us hl => match us, hl with | [_], _ => rfl⟩
  Reader_read_pair := ⟨_, _, _, PySem.W.mg_of X G aC100004, ⟨pg100004, hd100004, po100004, sa100004⟩, ⟨a100018, i100018, k100018⟩, fun_mk (st := (inClass (topS 21) 8)) l100018 c100018 k100018, (fun_mk (st := (inClass (topS 21) 8)) l100018 c100018 k100018).binds (ps := ["self"]) fun _ _ _ _ _ _ us hl => match us, hl with | [_], _ => rfl⟩
  Reader_read_record := ⟨_, _, _, PySem.W.mg_of X G aC100004, ⟨pg100004, hd100004, po100004, sa100004⟩, ⟨a100019, i100019, k100019⟩, fun_mk (st := (inClass (topS 21) 9)) l100019 c100019 k100019, (fun_mk (st := (inClass (topS 21) 9)) l100019 c100019 k100019).binds (ps := ["self"]) fun _ _ _ _ _ _ us hl => match us, hl with | [_], _ => rfl⟩
  Reader_read_group := ⟨_, _, _, PySem.W.mg_of X G aC100004, ⟨pg100004, hd100004, po100004, sa100004⟩, ⟨a100020, i100020, k100020⟩, fun_mk (st := (inClass (topS 21) 10)) l100020 c100020 k100020, (fun_mk (st := (inClass (topS 21) 10)) l100020 c100020 k100020).binds (ps := ["self"]) fun _ _ _ _ _ _ us hl => match us, hl with | [_], _ => rfl⟩
  Reader_read_thing := ⟨_, _, _, PySem.W.mg_of X G aC100004, ⟨pg100004, hd100004, po100004, sa100004⟩, ⟨a100021, i100021, k100021⟩, fun_mk (st := (inClass (topS 21) 11)) l100021 c100021 k100021, (fun_mk (st := (inClass (topS 21) 11)) l100021 c100021 k100021).binds (ps := ["self"]) fun _ _ _ _ _ _ us hl => match us, hl with | [_], _ => rfl⟩
  Reader_read_things := ⟨_, _, _, PySem.W.mg_of X G aC100004, ⟨pg100004, hd100004, po100004, sa100004⟩, ⟨a100022, i100022, k100022⟩, fun_mk (st := (inClass (topS 21) 12)) l100022 c100022 k100022, (fun_mk (st := (inClass (topS 21) 12)) l100022 c100022 k100022).binds (ps := ["self"]) fun _ _ _ _ _ _ us hl => match us, hl with | [_], _ => rfl⟩
  Reader_read_image := ⟨_, _, _, PySem.W.mg_of X G aC100004, ⟨pg100004, hd100004, po100004, sa100004⟩, ⟨a100023, i100023, k100023⟩, fun_mk (st := (inClass (topS 21) 13)) l100023 c100023 k100023, (fun_mk (st := (inClass (topS 21) 13)) l100023 c100023 k100023).binds (ps := ["self", "stripes", "block"]) fun _ _ _ _ _ _ us hl => match us, hl with | [_, _, _], _ => rfl⟩
  Reader_end := ⟨_, _, _, PySem.W.mg_of X G aC100004, ⟨pg100004, hd100004, po100004, sa100004⟩, ⟨a100024, i100024, k100024⟩, fun_mk (st := (inClass (topS 21) 14)) l100024 c100024 k100024, (fun_mk (st := (inClass (topS 21) 14)) l100024 c100024 k100024).binds (ps := ["self"]) fun _ _ _ _ _ _ us hl => match us, hl with | [_], _ => rfl⟩
  fl := Am.fldT_mk tabF (Am.fld_cons (PySem.W.mg_of X G aC100003) ⟨pg100003, hd100003, po100003, sa100003⟩ n100030 (Am.fld_cons (PySem.W.mg_of X G aC100003) ⟨pg100003, hd100003, po100003, sa100003⟩ n100029 (Am.fld_cons (PySem.W.mg_of X G aC100003) ⟨pg100003, hd100003, po100003, sa100003⟩ n100028 (Am.fld_cons (PySem.W.mg_of X G aC100003) ⟨pg100003, hd100003, po100003, sa100003⟩ n100027 (Am.fld_cons (PySem.W.mg_of X G aC100004) ⟨pg100004, hd100004, po100004, sa100004⟩ n100026 (Am.fld_cons (PySem.W.mg_of X G aC100004) ⟨pg100004, hd100004, po100004, sa100004⟩ n100025 Am.fld_nil))))))
  em := Am.exm_mk tabE (Am.exm_cons (PySem.W.mg_of X G aC100002) (PySem.W.mg_of X G aC100001) (Am.exm_any sb100001 ic100001 ty100001 eq100032) (Am.exm_cons (PySem.W.mg_of X G aC100001) (PySem.W.mg_of X G aC100001) (Am.exm_any sb100001 ic100001 ty100001 eq100031) Am.exm_nil))
  in_State := ⟨_, PySem.W.mg_of X G aC100003, ⟨pg100003, hd100003, po100003, sa100003⟩, ja100033, jn100033, jt100033, jm100033, Am.kit_self⟩
  ix := Am.isx_mk tabK (Am.isx_own (PySem.W.mg_of X G aC100002) ⟨eg100035, ek100035, sb100002, ed100035, ea100035, hn100034, ht100034, em100035⟩ (PySem.W.mg_of X G aC100002) (Am.kit_own ic100002 ty100002 es100039) (Am.isx_bi (PySem.W.mg_of X G aC100002) ⟨eg100035, ek100035, sb100002, ed100035, ea100035, hn100034, ht100034, em100035⟩ (PySem.W.mg_none_of X G en100038) Am.boot_ValueError (Am.kit_bi rfl es100038) (Am.isx_bi (PySem.W.mg_of X G aC100001) ⟨eg100036, ek100036, sb100001, ed100036, ea100036, hn100034, ht100034, em100036⟩ (PySem.W.mg_none_of X G en100037) Am.boot_ValueError (Am.kit_bi rfl es100037) Am.isx_nil)))
  b_ValueError := PySem.W.mg_none_of X G q100040
  b_bool := PySem.W.mg_none_of X G q100041
  b_int := PySem.W.mg_none_of X G q100042
  b_isinstance := PySem.W.mg_none_of X G q100043
  b_len := PySem.W.mg_none_of X G q100044
  b_list := PySem.W.mg_none_of X G q100045
  b_ord := PySem.W.mg_none_of X G q100046
  b_range := PySem.W.mg_none_of X G q100047
  b_sorted := PySem.W.mg_none_of X G q100048
  b_str := PySem.W.mg_none_of X G q100049
  b_tuple := PySem.W.mg_none_of X G q100050
  i_WORDS := ⟨_, _, _, _, PySem.W.mg_of X G iq100051, il100051, rfl, rfl, rfl, (by show 9 ≤ sizeLine; decide), (.cons ⟨_, rfl⟩ (.cons ⟨_, rfl⟩ (.cons ⟨_, rfl⟩ (.cons ⟨_, rfl⟩ (.cons ⟨_, rfl⟩ (.cons ⟨_, rfl⟩ (.cons ⟨_, rfl⟩ (.cons ⟨_, rfl⟩ (.cons ⟨_, rfl⟩ .nil)))))))))⟩
  c_WORDS := ⟨_, PySem.W.mg_of X G q100051, _, _, _, l100051, rfl, rfl, (by show 9 ≤ sizeLine; decide), (.cons ⟨_, rfl⟩ (.cons ⟨_, rfl⟩ (.cons ⟨_, rfl⟩ (.cons ⟨_, rfl⟩ (.cons ⟨_, rfl⟩ (.cons ⟨_, rfl⟩ (.cons ⟨_, rfl⟩ (.cons ⟨_, rfl⟩ (.cons ⟨_, rfl⟩ .nil)))))))))⟩
  c_LETTERS := ⟨_, PySem.W.mg_of X G q100052, _, rfl⟩
  c_NUMBER_BYTES := ⟨_, PySem.W.mg_of X G q100053, _, rfl⟩
  _wall := ⟨_, _, PySem.W.mg_of X G a100054, fun_mk (st := (topS 0)) l100054 c100054 k100054, (fun_mk (st := (topS 0)) l100054 c100054 k100054).binds (ps := ["k"]) fun _ _ _ _ _ _ us hl => match us, hl with | [_], _ => rfl⟩
  sorted_things := ⟨_, _, PySem.W.mg_of X G a100055, fun_mk (st := (topS 5)) l100055 c100055 k100055, (fun_mk (st := (topS 5)) l100055 c100055 k100055).binds (ps := ["things"]) fun _ _ _ _ _ _ us hl => match us, hl with | [_], _ => rfl⟩
  write_number := ⟨_, _, PySem.W.mg_of X G a100056, fun_mk (st := (topS 11)) l100056 c100056 k100056, (fun_mk (st := (topS 11)) l100056 c100056 k100056).binds (ps := ["number"]) fun _ _ _ _ _ _ us hl => match us, hl with | [_], _ => rfl⟩
  write_list := ⟨_, _, PySem.W.mg_of X G a100057, fun_mk (st := (topS 12)) l100057 c100057 k100057, (fun_mk (st := (topS 12)) l100057 c100057 k100057).binds (ps := ["items"]) fun _ _ _ _ _ _ us hl => match us, hl with | [_], _ => rfl⟩
  write_numbers := ⟨_, _, PySem.W.mg_of X G a100058, fun_mk (st := (topS 13)) l100058 c100058 k100058, (fun_mk (st := (topS 13)) l100058 c100058 k100058).binds (ps := ["numbers"]) fun _ _ _ _ _ _ us hl => match us, hl with | [_], _ => rfl⟩
  write_name := ⟨_, _, PySem.W.mg_of X G a100059, fun_mk (st := (topS 14)) l100059 c100059 k100059, (fun_mk (st := (topS 14)) l100059 c100059 k100059).binds (ps := ["name"]) fun _ _ _ _ _ _ us hl => match us, hl with | [_], _ => rfl⟩
  write_path := ⟨_, _, PySem.W.mg_of X G a100060, fun_mk (st := (topS 15)) l100060 c100060 k100060, (fun_mk (st := (topS 15)) l100060 c100060 k100060).binds (ps := ["path"]) fun _ _ _ _ _ _ us hl => match us, hl with | [_], _ => rfl⟩
  write_thing := ⟨_, _, PySem.W.mg_of X G a100061, fun_mk (st := (topS 16)) l100061 c100061 k100061, (fun_mk (st := (topS 16)) l100061 c100061 k100061).binds (ps := ["thing"]) fun _ _ _ _ _ _ us hl => match us, hl with | [_], _ => rfl⟩
  write_things := ⟨_, _, PySem.W.mg_of X G a100062, fun_mk (st := (topS 17)) l100062 c100062 k100062, (fun_mk (st := (topS 17)) l100062 c100062 k100062).binds (ps := ["things"]) fun _ _ _ _ _ _ us hl => match us, hl with | [_], _ => rfl⟩
  write_record := ⟨_, _, PySem.W.mg_of X G a100063, fun_mk (st := (topS 18)) l100063 c100063 k100063, (fun_mk (st := (topS 18)) l100063 c100063 k100063).binds (ps := ["record"]) fun _ _ _ _ _ _ us hl => match us, hl with | [_], _ => rfl⟩
  write_group := ⟨_, _, PySem.W.mg_of X G a100064, fun_mk (st := (topS 19)) l100064 c100064 k100064, (fun_mk (st := (topS 19)) l100064 c100064 k100064).binds (ps := ["records"]) fun _ _ _ _ _ _ us hl => match us, hl with | [_], _ => rfl⟩
  write_image := ⟨_, _, PySem.W.mg_of X G a100065, fun_mk (st := (topS 20)) l100065 c100065 k100065, (fun_mk (st := (topS 20)) l100065 c100065 k100065).binds (ps := ["commits", "state"]) fun _ _ _ _ _ _ us hl => match us, hl with | [_, _], _ => rfl⟩
  _law_next := ⟨_, _, PySem.W.mg_of X G a100066, fun_mk (st := (topS 23)) l100066 c100066 k100066, (fun_mk (st := (topS 23)) l100066 c100066 k100066).binds (ps := ["_law_state", "_law_limit"]) fun _ _ _ _ _ _ us hl => match us, hl with | [_, _], _ => rfl⟩
  _law_same := ⟨_, _, PySem.W.mg_of X G a100067, fun_mk (st := (topS 24)) l100067 c100067 k100067, (fun_mk (st := (topS 24)) l100067 c100067 k100067).binds (ps := ["_law_actual", "_law_expected"]) fun _ _ _ _ _ _ us hl => match us, hl with | [_, _], _ => rfl⟩
  _law_number := ⟨_, _, PySem.W.mg_of X G a100068, fun_mk (st := (topS 25)) l100068 c100068 k100068, (fun_mk (st := (topS 25)) l100068 c100068 k100068).binds (ps := ["_law_number_here"]) fun _ _ _ _ _ _ us hl => match us, hl with | [_], _ => rfl⟩
  _law_listed := ⟨_, _, PySem.W.mg_of X G a100069, fun_mk (st := (topS 26)) l100069 c100069 k100069, (fun_mk (st := (topS 26)) l100069 c100069 k100069).binds (ps := ["_law_parts"]) fun _ _ _ _ _ _ us hl => match us, hl with | [_], _ => rfl⟩
  _law_name_code := ⟨_, _, PySem.W.mg_of X G a100070, fun_mk (st := (topS 27)) l100070 c100070 k100070, (fun_mk (st := (topS 27)) l100070 c100070 k100070).binds (ps := ["_law_name"]) fun _ _ _ _ _ _ us hl => match us, hl with | [_], _ => rfl⟩
  _law_path_code := ⟨_, _, PySem.W.mg_of X G a100071, fun_mk (st := (topS 28)) l100071 c100071 k100071, (fun_mk (st := (topS 28)) l100071 c100071 k100071).binds (ps := ["_law_path"]) fun _ _ _ _ _ _ us hl => match us, hl with | [_], _ => rfl⟩
  _law_things_code := ⟨_, _, PySem.W.mg_of X G a100072, fun_mk (st := (topS 29)) l100072 c100072 k100072, (fun_mk (st := (topS 29)) l100072 c100072 k100072).binds (ps := ["_law_things_here"]) fun _ _ _ _ _ _ us hl => match us, hl with | [_], _ => rfl⟩
  _law_record_code := ⟨_, _, PySem.W.mg_of X G a100073, fun_mk (st := (topS 30)) l100073 c100073 k100073, (fun_mk (st := (topS 30)) l100073 c100073 k100073).binds (ps := ["_law_record_here"]) fun _ _ _ _ _ _ us hl => match us, hl with | [_], _ => rfl⟩
  _law_image_code := ⟨_, _, PySem.W.mg_of X G a100074, fun_mk (st := (topS 31)) l100074 c100074 k100074, (fun_mk (st := (topS 31)) l100074 c100074 k100074).binds (ps := ["_law_commits", "_law_things_here", "_law_snapshots"]) fun _ _ _ _ _ _ us hl => match us, hl with | [_, _, _], _ => rfl⟩
  _law_word := ⟨_, _, PySem.W.mg_of X G a100075, fun_mk (st := (topS 32)) l100075 c100075 k100075, (fun_mk (st := (topS 32)) l100075 c100075 k100075).binds (ps := ["_law_state"]) fun _ _ _ _ _ _ us hl => match us, hl with | [_], _ => rfl⟩
  _law_some_path := ⟨_, _, PySem.W.mg_of X G a100076, fun_mk (st := (topS 33)) l100076 c100076 k100076, (fun_mk (st := (topS 33)) l100076 c100076 k100076).binds (ps := ["_law_state"]) fun _ _ _ _ _ _ us hl => match us, hl with | [_], _ => rfl⟩
  _law_big := ⟨_, _, PySem.W.mg_of X G a100077, fun_mk (st := (topS 34)) l100077 c100077 k100077, (fun_mk (st := (topS 34)) l100077 c100077 k100077).binds (ps := ["_law_state"]) fun _ _ _ _ _ _ us hl => match us, hl with | [_], _ => rfl⟩
  _law_record := ⟨_, _, PySem.W.mg_of X G a100078, fun_mk (st := (topS 35)) l100078 c100078 k100078, (fun_mk (st := (topS 35)) l100078 c100078 k100078).binds (ps := ["_law_state"]) fun _ _ _ _ _ _ us hl => match us, hl with | [_], _ => rfl⟩
  _law_things := ⟨_, _, PySem.W.mg_of X G a100079, fun_mk (st := (topS 36)) l100079 c100079 k100079, (fun_mk (st := (topS 36)) l100079 c100079 k100079).binds (ps := ["_law_state"]) fun _ _ _ _ _ _ us hl => match us, hl with | [_], _ => rfl⟩
  _law_item_list := ⟨_, _, PySem.W.mg_of X G a100080, fun_mk (st := (topS 37)) l100080 c100080 k100080, (fun_mk (st := (topS 37)) l100080 c100080 k100080).binds (ps := ["_law_things_here"]) fun _ _ _ _ _ _ us hl => match us, hl with | [_], _ => rfl⟩
  _law_ends := ⟨_, _, PySem.W.mg_of X G a100081, fun_mk (st := (topS 38)) l100081 c100081 k100081, (fun_mk (st := (topS 38)) l100081 c100081 k100081).binds (ps := ["_law_reader", "_law_tail"]) fun _ _ _ _ _ _ us hl => match us, hl with | [_, _], _ => rfl⟩
  _law_read := ⟨_, _, PySem.W.mg_of X G a100082, fun_mk (st := (topS 39)) l100082 c100082 k100082, (fun_mk (st := (topS 39)) l100082 c100082 k100082).binds (ps := ["_law_reader", "_law_form"]) fun _ _ _ _ _ _ us hl => match us, hl with | [_, _], _ => rfl⟩
  _law_asks := ⟨_, _, PySem.W.mg_of X G a100083, fun_mk (st := (topS 40)) l100083 c100083 k100083, (fun_mk (st := (topS 40)) l100083 c100083 k100083).binds (ps := ["_law_form", "_law_thing", "_law_told", "_law_due", "_law_tail"]) fun _ _ _ _ _ _ us hl => match us, hl with | [_, _, _, _, _], _ => rfl⟩
  law := ⟨_, _, PySem.W.mg_of X G a100084, fun_mk (st := (topS 41)) l100084 c100084 k100084, (fun_mk (st := (topS 41)) l100084 c100084 k100084).binds (ps := ["_law_script"]) fun _ _ _ _ _ _ us hl => match us, hl with | [_], _ => rfl⟩
theorem law_mk {P : Program} {w : World} {K : PySem.W.Frag} {mg : Str → Option Value} {fa : Addr} (T : Txt K mg) (hfa : mg "law" = some (.ref fa)) :
    ∃ fd : FuncData, (∀ (s : Shared) (v : Value), BindsTo s fd ⟨[v], []⟩ [("_law_script", v)]) ∧ ∀ base : Heap, K.In base → base.Ns mainGlobals mg → FnOk P w K mg base (L2.CX P w) 10 fa fd ["_law_script"] (spLaw K) := by
  refine Has.law (x := "law") (ps := ["_law_script"]) (fun base => has_lawL T) ?_ hfa
  obtain ⟨f, fd, g, F, _⟩ := T.law
  have lk := fun_look F
  obtain ⟨oc, od, kV, doc, pm, an, cdv, ct, osl, rfl, l, c⟩ := F.ex
  exact ⟨f, _, g, lk, fun s v => .of_eq rfl⟩
end Lw
open PySem PySem.W PyProof.Rows
set_option maxRecDepth 100000 in
set_option maxHeartbeats 0 in
theorem PySem.Challenge.cw_rotward_k28_bytes_of_data_holds : PySem.Challenge.rw_rotward_k28_bytes_of_data.Holds := by
  w_on; o_law; k_head; (case hw => w_witness2)
  k_fill
  refine L2.walk_of (l := PySem.Challenge.rw_rotward_k28_bytes_of_data) (n := 63) (k := 10) (x := "_law_script") (CX := fun w => L2.CX (PySem.Challenge.rw_rotward_k28_bytes_of_data).prog w) (sp := fun w => Lw.spLaw _) rfl (by decide) rfl ⟨rfl, by decide, by decide⟩ (fun w h Y => PySem.W.kIn_of Y) ?F (fun _ _ a ns hl _ hS => ⟨a, ns, rfl, hS, hl, fun _ => rfl⟩) (fun _ _ _ _ _ ⟨_, _, _, _, _, _, _, _, _, _, _, _, h⟩ => h)
  case F =>
    intro w mg fa h KX G hmg
    refine Lw.law_mk ?T hmg
    refine' Lw.txt_mk KX G ?aC100001 ?xe100001 ?kc100001 ?sb100001 ?ty100001 ?ic100001 ?aC100002 ?xe100002 ?kc100002 ?sb100002 ?ty100002 ?ic100002 ?aC100003 ?pg100003 ?hd100003 ?po100003 ?sa100003 ?mk100003 ?kc100003 ?aC100004 ?pg100004 ?hd100004 ?po100004 ?sa100004 ?mk100004 ?kc100004 ?a100005 ?i100005 ?l100005 ?c100005 ?k100005 ?a100006 ?i100006 ?l100006 ?c100006 ?k100006 ?a100007 ?i100007 ?l100007 ?c100007 ?k100007 ?a100008 ?i100008 ?l100008 ?c100008 ?k100008 ?a100009 ?i100009 ?l100009 ?c100009 ?k100009 ?a100010 ?i100010 ?l100010 ?c100010 ?k100010 ?a100011 ?i100011 ?l100011 ?c100011 ?k100011 ?a100012 ?i100012 ?l100012 ?c100012 ?k100012 ?a100013 ?i100013 ?l100013 ?c100013 ?k100013 ?a100014 ?i100014 ?l100014 ?c100014 ?k100014 ?a100015 ?i100015 ?l100015 ?c100015 ?k100015 ?a100016 ?i100016 ?l100016 ?c100016 ?k100016 ?a100017 ?i100017 ?l100017 ?c100017 ?k100017 ?a100018 ?i100018 ?l100018 ?c100018 ?k100018 ?a100019 ?i100019 ?l100019 ?c100019 ?k100019 ?a100020 ?i100020 ?l100020 ?c100020 ?k100020 ?a100021 ?i100021 ?l100021 ?c100021 ?k100021 ?a100022 ?i100022 ?l100022 ?c100022 ?k100022 ?a100023 ?i100023 ?l100023 ?c100023 ?k100023 ?a100024 ?i100024 ?l100024 ?c100024 ?k100024 ?n100030 ?n100029 ?n100028 ?n100027 ?n100026 ?n100025 ?eq100032 ?eq100031 ?ja100033 ?jn100033 ?jt100033 ?jm100033 ?hn100034 ?ht100034 ?eg100035 ?ek100035 ?ed100035 ?ea100035 ?em100035 ?eg100036 ?ek100036 ?ed100036 ?ea100036 ?em100036 ?es100037 ?en100037 ?es100038 ?en100038 ?es100039 ?q100040 ?q100041 ?q100042 ?q100043 ?q100044 ?q100045 ?q100046 ?q100047 ?q100048 ?q100049 ?q100050 ?iq100051 ?il100051 ?q100051 ?l100051 ?q100052 ?q100053 ?a100054 ?l100054 ?c100054 ?k100054 ?a100055 ?l100055 ?c100055 ?k100055 ?a100056 ?l100056 ?c100056 ?k100056 ?a100057 ?l100057 ?c100057 ?k100057 ?a100058 ?l100058 ?c100058 ?k100058 ?a100059 ?l100059 ?c100059 ?k100059 ?a100060 ?l100060 ?c100060 ?k100060 ?a100061 ?l100061 ?c100061 ?k100061 ?a100062 ?l100062 ?c100062 ?k100062 ?a100063 ?l100063 ?c100063 ?k100063 ?a100064 ?l100064 ?c100064 ?k100064 ?a100065 ?l100065 ?c100065 ?k100065 ?a100066 ?l100066 ?c100066 ?k100066 ?a100067 ?l100067 ?c100067 ?k100067 ?a100068 ?l100068 ?c100068 ?k100068 ?a100069 ?l100069 ?c100069 ?k100069 ?a100070 ?l100070 ?c100070 ?k100070 ?a100071 ?l100071 ?c100071 ?k100071 ?a100072 ?l100072 ?c100072 ?k100072 ?a100073 ?l100073 ?c100073 ?k100073 ?a100074 ?l100074 ?c100074 ?k100074 ?a100075 ?l100075 ?c100075 ?k100075 ?a100076 ?l100076 ?c100076 ?k100076 ?a100077 ?l100077 ?c100077 ?k100077 ?a100078 ?l100078 ?c100078 ?k100078 ?a100079 ?l100079 ?c100079 ?k100079 ?a100080 ?l100080 ?c100080 ?k100080 ?a100081 ?l100081 ?c100081 ?k100081 ?a100082 ?l100082 ?c100082 ?k100082 ?a100083 ?l100083 ?c100083 ?k100083 ?a100084 ?l100084 ?c100084 ?k100084
    (case aC100001 => k_is)
    (case xe100001 => k_exc)
    (case kc100001 => k_is)
    (case sb100001 => k_is)
    (case ty100001 => k_is)
    (case ic100001 => k_is)
    (case aC100002 => k_is)
    (case xe100002 => k_exc)
    (case kc100002 => k_is)
    (case sb100002 => k_is)
    (case ty100002 => k_is)
    (case ic100002 => k_is)
    (case aC100003 => k_is)
    (case pg100003 => k_is)
    (case hd100003 => k_is)
    (case po100003 => k_is)
    (case sa100003 => k_is)
    (case mk100003 => k_is)
    (case kc100003 => k_is)
    (case aC100004 => k_is)
    (case pg100004 => k_is)
    (case hd100004 => k_is)
    (case po100004 => k_is)
    (case sa100004 => k_is)
    (case mk100004 => k_is)
    (case kc100004 => k_is)
    (case a100005 => k_is)
    (case i100005 => k_is)
    (case l100005 => k_is)
    (case c100005 => k_is)
    (case k100005 => k_is)
    (case a100006 => k_is)
    (case i100006 => k_is)
    (case l100006 => k_is)
    (case c100006 => k_is)
    (case k100006 => k_is)
    (case a100007 => k_is)
    (case i100007 => k_is)
    (case l100007 => k_is)
    (case c100007 => k_is)
    (case k100007 => k_is)
    (case a100008 => k_is)
    (case i100008 => k_is)
    (case l100008 => k_is)
    (case c100008 => k_is)
    (case k100008 => k_is)
    (case a100009 => k_is)
    (case i100009 => k_is)
    (case l100009 => k_is)
    (case c100009 => k_is)
    (case k100009 => k_is)
    (case a100010 => k_is)
    (case i100010 => k_is)
    (case l100010 => k_is)
    (case c100010 => k_is)
    (case k100010 => k_is)
    (case a100011 => k_is)
    (case i100011 => k_is)
    (case l100011 => k_is)
    (case c100011 => k_is)
    (case k100011 => k_is)
    (case a100012 => k_is)
    (case i100012 => k_is)
    (case l100012 => k_is)
    (case c100012 => k_is)
    (case k100012 => k_is)
    (case a100013 => k_is)
    (case i100013 => k_is)
    (case l100013 => k_is)
    (case c100013 => k_is)
    (case k100013 => k_is)
    (case a100014 => k_is)
    (case i100014 => k_is)
    (case l100014 => k_is)
    (case c100014 => k_is)
    (case k100014 => k_is)
    (case a100015 => k_is)
    (case i100015 => k_is)
    (case l100015 => k_is)
    (case c100015 => k_is)
    (case k100015 => k_is)
    (case a100016 => k_is)
    (case i100016 => k_is)
    (case l100016 => k_is)
    (case c100016 => k_is)
    (case k100016 => k_is)
    (case a100017 => k_is)
    (case i100017 => k_is)
    (case l100017 => k_is)
    (case c100017 => k_is)
    (case k100017 => k_is)
    (case a100018 => k_is)
    (case i100018 => k_is)
    (case l100018 => k_is)
    (case c100018 => k_is)
    (case k100018 => k_is)
    (case a100019 => k_is)
    (case i100019 => k_is)
    (case l100019 => k_is)
    (case c100019 => k_is)
    (case k100019 => k_is)
    (case a100020 => k_is)
    (case i100020 => k_is)
    (case l100020 => k_is)
    (case c100020 => k_is)
    (case k100020 => k_is)
    (case a100021 => k_is)
    (case i100021 => k_is)
    (case l100021 => k_is)
    (case c100021 => k_is)
    (case k100021 => k_is)
    (case a100022 => k_is)
    (case i100022 => k_is)
    (case l100022 => k_is)
    (case c100022 => k_is)
    (case k100022 => k_is)
    (case a100023 => k_is)
    (case i100023 => k_is)
    (case l100023 => k_is)
    (case c100023 => k_is)
    (case k100023 => k_is)
    (case a100024 => k_is)
    (case i100024 => k_is)
    (case l100024 => k_is)
    (case c100024 => k_is)
    (case k100024 => k_is)
    (case n100030 => k_is)
    (case n100029 => k_is)
    (case n100028 => k_is)
    (case n100027 => k_is)
    (case n100026 => k_is)
    (case n100025 => k_is)
    (case eq100032 => first | rfl | k_is)
    (case eq100031 => first | rfl | k_is)
    (case ja100033 => k_is)
    (case jn100033 => k_is)
    (case jt100033 => k_is)
    (case jm100033 => k_is)
    (case hn100034 => k_is)
    (case ht100034 => k_is)
    (case eg100035 => k_is)
    (case ek100035 => k_is)
    (case ed100035 => k_is)
    (case ea100035 => k_is)
    (case em100035 => k_is)
    (case eg100036 => k_is)
    (case ek100036 => k_is)
    (case ed100036 => k_is)
    (case ea100036 => k_is)
    (case em100036 => k_is)
    (case es100037 => k_is)
    (case en100037 => k_is)
    (case es100038 => k_is)
    (case en100038 => k_is)
    (case es100039 => k_is)
    (case q100040 => k_is)
    (case q100041 => k_is)
    (case q100042 => k_is)
    (case q100043 => k_is)
    (case q100044 => k_is)
    (case q100045 => k_is)
    (case q100046 => k_is)
    (case q100047 => k_is)
    (case q100048 => k_is)
    (case q100049 => k_is)
    (case q100050 => k_is)
    (case iq100051 => k_is)
    (case il100051 => k_is)
    (case q100051 => k_is)
    (case l100051 => k_is)
    (case q100052 => k_is)
    (case q100053 => k_is)
    (case a100054 => k_is)
    (case l100054 => k_is)
    (case c100054 => k_is)
    (case k100054 => k_is)
    (case a100055 => k_is)
    (case l100055 => k_is)
    (case c100055 => k_is)
    (case k100055 => k_is)
    (case a100056 => k_is)
    (case l100056 => k_is)
    (case c100056 => k_is)
    (case k100056 => k_is)
    (case a100057 => k_is)
    (case l100057 => k_is)
    (case c100057 => k_is)
    (case k100057 => k_is)
    (case a100058 => k_is)
    (case l100058 => k_is)
    (case c100058 => k_is)
    (case k100058 => k_is)
    (case a100059 => k_is)
    (case l100059 => k_is)
    (case c100059 => k_is)
    (case k100059 => k_is)
    (case a100060 => k_is)
    (case l100060 => k_is)
    (case c100060 => k_is)
    (case k100060 => k_is)
    (case a100061 => k_is)
    (case l100061 => k_is)
    (case c100061 => k_is)
    (case k100061 => k_is)
    (case a100062 => k_is)
    (case l100062 => k_is)
    (case c100062 => k_is)
    (case k100062 => k_is)
    (case a100063 => k_is)
    (case l100063 => k_is)
    (case c100063 => k_is)
    (case k100063 => k_is)
    (case a100064 => k_is)
    (case l100064 => k_is)
    (case c100064 => k_is)
    (case k100064 => k_is)
    (case a100065 => k_is)
    (case l100065 => k_is)
    (case c100065 => k_is)
    (case k100065 => k_is)
    (case a100066 => k_is)
    (case l100066 => k_is)
    (case c100066 => k_is)
    (case k100066 => k_is)
    (case a100067 => k_is)
    (case l100067 => k_is)
    (case c100067 => k_is)
    (case k100067 => k_is)
    (case a100068 => k_is)
    (case l100068 => k_is)
    (case c100068 => k_is)
    (case k100068 => k_is)
    (case a100069 => k_is)
    (case l100069 => k_is)
    (case c100069 => k_is)
    (case k100069 => k_is)
    (case a100070 => k_is)
    (case l100070 => k_is)
    (case c100070 => k_is)
    (case k100070 => k_is)
    (case a100071 => k_is)
    (case l100071 => k_is)
    (case c100071 => k_is)
    (case k100071 => k_is)
    (case a100072 => k_is)
    (case l100072 => k_is)
    (case c100072 => k_is)
    (case k100072 => k_is)
    (case a100073 => k_is)
    (case l100073 => k_is)
    (case c100073 => k_is)
    (case k100073 => k_is)
    (case a100074 => k_is)
    (case l100074 => k_is)
    (case c100074 => k_is)
    (case k100074 => k_is)
    (case a100075 => k_is)
    (case l100075 => k_is)
    (case c100075 => k_is)
    (case k100075 => k_is)
    (case a100076 => k_is)
    (case l100076 => k_is)
    (case c100076 => k_is)
    (case k100076 => k_is)
    (case a100077 => k_is)
    (case l100077 => k_is)
    (case c100077 => k_is)
    (case k100077 => k_is)
    (case a100078 => k_is)
    (case l100078 => k_is)
    (case c100078 => k_is)
    (case k100078 => k_is)
    (case a100079 => k_is)
    (case l100079 => k_is)
    (case c100079 => k_is)
    (case k100079 => k_is)
    (case a100080 => k_is)
    (case l100080 => k_is)
    (case c100080 => k_is)
    (case k100080 => k_is)
    (case a100081 => k_is)
    (case l100081 => k_is)
    (case c100081 => k_is)
    (case k100081 => k_is)
    (case a100082 => k_is)
    (case l100082 => k_is)
    (case c100082 => k_is)
    (case k100082 => k_is)
    (case a100083 => k_is)
    (case l100083 => k_is)
    (case c100083 => k_is)
    (case k100083 => k_is)
    (case a100084 => k_is)
    (case l100084 => k_is)
    (case c100084 => k_is)
    (case k100084 => k_is)
#print axioms PySem.Challenge.cw_rotward_k28_bytes_of_data_holds