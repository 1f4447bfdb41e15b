import PyProof.Rows.All
import Wide.All
import OpenK.AllK
import Wide.FinOn
import HandS.ForSpec
import HandS.ForMost
import HandS.IsInst
import HandS.Flow
import HandS.Wide
import HandS.Codes
import HandS.Evl
import HandS.CallSlots
import HandS.Conv
import HandS.DictComp
import HandS.ExcCtx
import HandS.ExcIs
import HandS.HotCalls
import HandS.Replace
import HandS.SortInts
import HandS.SortRule
import HandS.Strs
import HandS.Style
import HandS.TupAny
import HandS.TupLen
import KE.GoesComp
import KE.LtData
import PySem.Challenge.RW_rotward_k02_operations_and_errors
set_option Elab.async false
set_option linter.all false
set_option maxRecDepth 100000
set_option maxHeartbeats 4000000
/-! ### Core: what a def is worth by its name, calls by it, steps of readings -/
namespace Rw
open PySem PySem.Spec PyProof.Rows L2
/-- the module's name x stands for a def that keeps sp at level k -/
def Has (P : Program) (w : World) (K : PySem.W.Frag) (mg : Str → Option Value) (base : Heap) (CX : CXT) (k : Nat) (x : Str) (ps : List Str) (sp : Sp) : Prop :=
  ∃ (f : Addr) (fd : FuncData), mg x = some (.ref f) ∧ PySem.W.keepIn K (.ref f) = true ∧ Binds K fd ps [] ∧ (∃ oc od osl, K.lookup f = some ⟨oc, od, .func fd, osl⟩) ∧ FnOk P w K mg base CX k f fd ps sp
/-- the text's def as the top leaves it -/
def Def (K : PySem.W.Frag) (mg : Str → Option Value) (x qual : Str) (st : Stmt) (ps : List Str) : Prop :=
  ∃ (f : Addr) (fd : FuncData), mg x = some (.ref f) ∧ Fun K x qual st f fd ∧ Binds K fd ps []
theorem fun_look {K : PySem.W.Frag} {x qual : Str} {st : Stmt} {f : Addr} {fd : FuncData} (F : Fun K x qual st f fd) : ∃ oc od osl, K.lookup f = some ⟨oc, od, .func fd, osl⟩ := by
  obtain ⟨oc, od, _, _, _, _, _, _, osl, _, l, _⟩ := F.ex
  exact ⟨oc, od, osl, l⟩
section
variable {P : Program} {w : World} {K : PySem.W.Frag} {mg : Str → Option Value} {base : Heap} {CX : CXT} {k : Nat} {x qual : Str} {st : Stmt} {ps N : List Str} {sp : Sp}
theorem Def.has (D : Def K mg x qual st ps) (S : FnScope N ps (defScope st)) (len : ∀ vs H Q E, sp vs H Q E → vs.length = ps.length)
    (hbody : ∀ (f : Addr) (cdv : Value) (A : Around) (outer : List Env) (s : Shared) (H : Hp) (vs : List V) (Q : VK) (E : XK), Room k (A.deeper (envOfC qual (defScope st) s.heap.objs.size f cdv)) → sp vs H Q E →
      ∃ t, PSs (cxOf CX0 P w K mg base N qual (defScope st) f cdv A outer s H E).nox (defBody st) t ∧ t { nx := fun _ H' => Q .non H', rt := Q } (start N vs) H) : Has P w K mg base CX0 (k + 1) x ps sp := by
  obtain ⟨f, fd, g, F, b⟩ := D
  exact ⟨f, fd, g, F.kp, b, fun_look F, F.ok S len (hbody f)⟩
theorem Def.hasX (D : Def K mg x qual st ps) (S : FnScope N ps (defScope st)) (len : ∀ vs H Q E, sp vs H Q E → vs.length = ps.length)
    (hbody : ∀ (f : Addr) (cdv : Value) (A : Around) (outer : List Env) (s : Shared) (H : Hp) (vs : List V) (Q : VK) (E : XK), Room k (A.deeper (envOfC qual (defScope st) s.heap.objs.size f cdv)) → sp vs H Q E →
      ∃ t, PSs (cxOf (L2.CX P w) P w K mg base N qual (defScope st) f cdv A outer s H E) (defBody st) t ∧ t { nx := fun _ H' => Q .non H', rt := Q } (start N vs) H) : Has P w K mg base (L2.CX P w) (k + 1) x ps sp := by
  obtain ⟨f, fd, g, F, b⟩ := D
  exact ⟨f, fd, g, F.kp, b, fun_look F, F.okX S len (hbody f)⟩
/-- the law's own def, for walk_of -/
theorem Has.law {fa : Addr} (h : ∀ base, Has P w K mg base CX k x ps sp) (D : ∃ (f : Addr) (fd : FuncData), mg x = some (.ref f) ∧ (∃ oc od osl, K.lookup f = some ⟨oc, od, .func fd, osl⟩) ∧ ∀ (s : Shared) (v : Value), BindsTo s fd ⟨[v], []⟩ (ps.zip [v])) (hfa : mg x = some (.ref fa)) :
    ∃ fd : FuncData, (∀ (s : Shared) (v : Value), BindsTo s fd ⟨[v], []⟩ (ps.zip [v])) ∧ ∀ base : Heap, K.In base → base.Ns mainGlobals mg → FnOk P w K mg base CX k fa fd ps sp := by
  obtain ⟨f, fd, g, ⟨oc, od, osl, lk⟩, hb⟩ := D
  have e := hfa.symm.trans g
  cases e
  refine ⟨fd, hb, fun base _ _ => ?_⟩
  obtain ⟨f', fd', g', _, _, ⟨oc', od', osl', lk'⟩, ok⟩ := h base
  have e := g.symm.trans g'
  cases e
  rw [lk] at lk'
  cases lk'
  exact ok
/-- a def that is not called -/
theorem Def.never (D : Def K mg x qual st ps) : Has P w K mg base CX k x ps (fun _ _ _ _ => False) := by
  obtain ⟨f, fd, g, F, b⟩ := D
  exact ⟨f, fd, g, F.kp, b, fun_look F, ⟨fun _ _ _ _ h => h.elim, fun _ _ _ _ _ _ _ _ _ _ _ _ _ h => h.elim⟩⟩
theorem Has.mono {j : Nat} (h : Has P w K mg base CX j x ps sp) (l : j ≤ k) : Has P w K mg base CX k x ps sp := by
  obtain ⟨f, fd, g, kp, b, lk, F⟩ := h
  exact ⟨f, fd, g, kp, b, lk, F.mono l⟩
theorem Has.imp {sp' : Sp} (h : Has P w K mg base CX k x ps sp) (i : ∀ vs H Q E, sp' vs H Q E → sp vs H Q E) : Has P w K mg base CX k x ps sp' := by
  obtain ⟨f, fd, g, kp, b, lk, F⟩ := h
  exact ⟨f, fd, g, kp, b, lk, F.imp i⟩
end
/-- xs[i], for op= -/
theorem get_list {X : Cx} : PGet X (rIxL X.K) := by
  intro pins s σ H o i ov iv Q I ro ri h
  obtain ⟨p, xs, j, z, rfl, rfl, hq, he, q⟩ := h
  cases ro
  obtain ⟨t, rfl⟩ := ri
  obtain ⟨its, r, pl, hz⟩ := I.list hq
  obtain ⟨n, h1, h2, h3, h4, h5⟩ := atI_get he
  obtain ⟨w, ew, rw'⟩ := r.get h2
  have hl := r.length
  have hn := line63
  have fin : EP X pins σ Q w s := ⟨z, H, I, rw', q⟩
  by_cases h0 : 0 ≤ j
  · have hj : j.toNat = n := by
      rw [seqIndex_of h0 h5] at h1
      exact Option.some.inj h1
    exact wpAny_getItem_list pl.isList h0 (by omega) (by rw [hj]; simpa using ew) fin
  · have hj : (j + (its.toArray.size : Int)).toNat = n := by
      rw [seqIndex_neg (by omega) h4] at h1
      rw [List.size_toArray, ← hl]
      exact Option.some.inj h1
    exact wpAny_getItem_list_neg pl.isList (by omega) (by rw [List.size_toArray] <;> omega) (by omega) (by rw [hj]; simpa using ew) fin
/-- a module's constant -/
def Glob (mg : Str → Option Value) (x : Str) (v : V) : Prop := ∃ u, mg x = some u ∧ RelV v u
theorem pe_globE {X : Cx} {x : Str} {v : V} {pos : Pos} (hg : Gl X x) (h : Glob X.mg x v) (hd : (x == ("__debug__" : Str)) = false := by decide) : PE X (.Name x pos) (tC v) := by
  obtain ⟨u, hm, r⟩ := h
  exact pe_glob hg hm r hd
def GlobT (K : PySem.W.Frag) (mg : Str → Option Value) (x : Str) (vs : List V) : Prop :=
  ∃ a, mg x = some (.ref a) ∧ ∃ (o : Obj) (its : Array Value) (n : Nat), K.lookup a = some o ∧ o.cls = .type "tuple" ∧ o.data = .seq its n ∧ its.size ≤ sizeLine ∧ Vals vs its.toList
end Rw
namespace Fld
end Fld
namespace Lw
end Lw
/-! ### Am: an abstract machine of values: data by what they hold, a store of cells that may change -/
namespace Am
open PySem PySem.Spec PyProof.Rows L2
/-- data: what is never changed any more -/
inductive D where
  | non | bl (b : Bool) | int (i : Int) | str (x : Str) | fn (x : Str)
  | list (xs : List D) | scr (xs : List D) | tup (xs : List D) | kt (xs : List D)
  | dK (kvs : List (Key × D)) | dT (kvs : List (List Key × D))
  | ins (c : Str) (fs : List (Str × D))
/-- a value: data, or a cell of the store -/
inductive A where
  | d (x : D) | c (i : Nat)
/-- what a cell holds -/
inductive Cell where
  | lst (xs : List A) | dK (kvs : List (Key × A)) | dT (kvs : List (List Key × A)) | ins (c : Str) (fs : List (Str × A))
  | fz (x : D)
abbrev Store := List Cell
abbrev Slots := List (Option A)
/-- an exception of an own class -/
structure Exn where
  cls : Str
  fs : Option (List (Str × D))
inductive Res (α : Type) where
  | ok (a : α) (st : Store) | ex (x : Exn) (st : Store) | no
inductive Out where
  | nx (σ : Slots) (st : Store) | rt (a : A) (st : Store) | bk (σ : Slots) (st : Store) | ct (σ : Slots) (st : Store) | ex (x : Exn) (σ : Slots) (st : Store) | no
abbrev ME := Slots → Store → Res A
abbrev MT := Slots → Store → Res Bool
abbrev MA := Slots → Store → Res (List A)
abbrev MS := Slots → Store → Out
abbrev MF := List A → Store → Res A
/-- a test that is not reckoned -/
noncomputable def ifc {α : Sort _} (p : Prop) (a b : α) : α := @ite α p (Classical.propDecidable p) a b
theorem ifc_pos {α : Sort _} {p : Prop} {a b : α} (h : p) : ifc p a b = a := by unfold ifc; exact if_pos h
theorem ifc_neg {α : Sort _} {p : Prop} {a b : α} (h : ¬ p) : ifc p a b = b := by unfold ifc; exact if_neg h
def Res.bind {α β : Type} : Res α → (α → Store → Res β) → Res β
  | .ok a st, k => k a st
  | .ex x st, _ => .ex x st
  | .no, _ => .no

structure Ctx where
  K : PySem.W.Frag
  mg : Str → Option Value
structure Wd where
  G : Hp
  E : Nat → Addr

/-! ### data in a heap -/
def KD {κ β γ : Type} (R : β → γ → Prop) : κ × β → κ × γ → Prop := fun p q => p.1 = q.1 ∧ R p.2 q.2
section
variable (c : Ctx) (G : Hp)
mutual
def DR : D → V → Prop
  | .non, v => v = .non
  | .bl b, v => v = .bl b
  | .int i, v => v = .int i
  | .str x, v => v = .str x
  | .fn x, v => ∃ f, c.mg x = some (.ref f) ∧ v = .ref f
  | .list ds, v => ∃ a vs, v = .ref a ∧ G a = some (.lst vs) ∧ DRs ds vs
  | .scr ds, v => ∃ a vs, v = .ref a ∧ SqL c.K G a vs ∧ DRs ds vs
  | .tup ds, v => ∃ a vs, v = .ref a ∧ G a = some (.tup vs) ∧ DRs ds vs
  | .kt ds, v => ∃ a vs, v = .ref a ∧ SqT c.K G a vs ∧ DRs ds vs
  | .dK ds, v => ∃ a us, v = .ref a ∧ Rd G a (.dK us) ∧ DRk ds us
  | .dT ds, v => ∃ a us, v = .ref a ∧ Rd G a (.dT us) ∧ DRt ds us
  | .ins x ds, v => ∃ a C dx us, v = .ref a ∧ G a = some (.ins C dx us) ∧ c.mg x = some (.ref C) ∧ DRf ds us
def DRs : List D → List V → Prop
  | [], vs => vs = []
  | d :: ds, vs => ∃ v r, vs = v :: r ∧ DR d v ∧ DRs ds r
def DRk : List (Key × D) → List (Key × V) → Prop
  | [], vs => vs = []
  | (k, d) :: ds, vs => ∃ v r, vs = (k, v) :: r ∧ DR d v ∧ DRk ds r
def DRt : List (List Key × D) → List (List Key × V) → Prop
  | [], vs => vs = []
  | (k, d) :: ds, vs => ∃ v r, vs = (k, v) :: r ∧ DR d v ∧ DRt ds r
def DRf : List (Str × D) → List (Str × V) → Prop
  | [], vs => vs = []
  | (k, d) :: ds, vs => ∃ v r, vs = (k, v) :: r ∧ DR d v ∧ DRf ds r
end
end
theorem same_rd {H H' : Hp} {a : Addr} {o : HO} (e : Same H H') (h : Rd H a o) : Rd H' a o := by
  rcases h with h | ⟨u, h⟩
  · exact .inl (e _ _ h)
  · exact .inr ⟨u, e _ _ h⟩
theorem same_t {K : PySem.W.Frag} {H H' : Hp} {a : Addr} {xs : List V} (e : Same H H') (h : SqT K H a xs) : SqT K H' a xs := by
  rcases h with h | h
  · exact .inl (same_rd e h)
  · exact .inr h
/-- the same but for locks of dicts -/
def IsDct : HO → Prop
  | .dK _ => True
  | .dT _ => True
  | .frz _ (.dK _) => True
  | .frz _ (.dT _) => True
  | _ => False
structure SameU (G G' : Hp) : Prop where
  keep : ∀ a o, G a = some o → ¬ IsDct o → G' a = some o
  dk : ∀ a us, Rd G a (.dK us) → Rd G' a (.dK us)
  dt : ∀ a us, Rd G a (.dT us) → Rd G' a (.dT us)
theorem SameU.rdl {H H' : Hp} {a : Addr} {xs : List V} (e : SameU H H') (h : Rd H a (.lst xs)) : Rd H' a (.lst xs) := h.imp (fun h => e.keep _ _ h id) fun ⟨u, h⟩ => ⟨u, e.keep _ _ h id⟩
theorem SameU.rdt {H H' : Hp} {a : Addr} {xs : List V} (e : SameU H H') (h : Rd H a (.tup xs)) : Rd H' a (.tup xs) := h.imp (fun h => e.keep _ _ h id) fun ⟨u, h⟩ => ⟨u, e.keep _ _ h id⟩
theorem SameU.seq {K : PySem.W.Frag} {H H' : Hp} {a : Addr} {xs : List V} (e : SameU H H') (h : SqL K H a xs) : SqL K H' a xs := h.imp e.rdl id
theorem SameU.tup {K : PySem.W.Frag} {H H' : Hp} {a : Addr} {xs : List V} (e : SameU H H') (h : SqT K H a xs) : SqT K H' a xs := h.imp e.rdt id
section
variable {c : Ctx} {G G' : Hp}
mutual
theorem DR.same (e : Same G G') : ∀ {d : D} {v : V}, DR c G d v → DR c G' d v
  | .non, _, h => h
  | .bl _, _, h => h
  | .int _, _, h => h
  | .str _, _, h => h
  | .fn _, _, h => h
  | .list _, _, ⟨a, vs, h1, h2, h3⟩ => ⟨a, vs, h1, e _ _ h2, DRs.same e h3⟩
  | .scr _, _, ⟨a, vs, h1, h2, h3⟩ => ⟨a, vs, h1, e.seq h2, DRs.same e h3⟩
  | .tup _, _, ⟨a, vs, h1, h2, h3⟩ => ⟨a, vs, h1, e _ _ h2, DRs.same e h3⟩
  | .kt _, _, ⟨a, vs, h1, h2, h3⟩ => ⟨a, vs, h1, same_t e h2, DRs.same e h3⟩
  | .dK _, _, ⟨a, vs, h1, h2, h3⟩ => ⟨a, vs, h1, same_rd e h2, DRk.same e h3⟩
  | .dT _, _, ⟨a, vs, h1, h2, h3⟩ => ⟨a, vs, h1, same_rd e h2, DRt.same e h3⟩
  | .ins _ _, _, ⟨a, C, dx, us, h1, h2, h3, h4⟩ => ⟨a, C, dx, us, h1, e _ _ h2, h3, DRf.same e h4⟩
theorem DRs.same (e : Same G G') : ∀ {ds : List D} {vs : List V}, DRs c G ds vs → DRs c G' ds vs
  | [], _, h => h
  | _ :: _, _, ⟨v, r, h1, h2, h3⟩ => ⟨v, r, h1, DR.same e h2, DRs.same e h3⟩
theorem DRk.same (e : Same G G') : ∀ {ds : List (Key × D)} {vs : List (Key × V)}, DRk c G ds vs → DRk c G' ds vs
  | [], _, h => h
  | (_, _) :: _, _, ⟨v, r, h1, h2, h3⟩ => ⟨v, r, h1, DR.same e h2, DRk.same e h3⟩
theorem DRt.same (e : Same G G') : ∀ {ds : List (List Key × D)} {vs : List (List Key × V)}, DRt c G ds vs → DRt c G' ds vs
  | [], _, h => h
  | (_, _) :: _, _, ⟨v, r, h1, h2, h3⟩ => ⟨v, r, h1, DR.same e h2, DRt.same e h3⟩
theorem DRf.same (e : Same G G') : ∀ {ds : List (Str × D)} {vs : List (Str × V)}, DRf c G ds vs → DRf c G' ds vs
  | [], _, h => h
  | (_, _) :: _, _, ⟨v, r, h1, h2, h3⟩ => ⟨v, r, h1, DR.same e h2, DRf.same e h3⟩
end
mutual
theorem DR.sameU (e : SameU G G') : ∀ {d : D} {v : V}, DR c G d v → DR c G' d v
  | .non, _, h => h
  | .bl _, _, h => h
  | .int _, _, h => h
  | .str _, _, h => h
  | .fn _, _, h => h
  | .list _, _, ⟨a, vs, h1, h2, h3⟩ => ⟨a, vs, h1, e.keep _ _ h2 id, DRs.sameU e h3⟩
  | .scr _, _, ⟨a, vs, h1, h2, h3⟩ => ⟨a, vs, h1, e.seq h2, DRs.sameU e h3⟩
  | .tup _, _, ⟨a, vs, h1, h2, h3⟩ => ⟨a, vs, h1, e.keep _ _ h2 id, DRs.sameU e h3⟩
  | .kt _, _, ⟨a, vs, h1, h2, h3⟩ => ⟨a, vs, h1, e.tup h2, DRs.sameU e h3⟩
  | .dK _, _, ⟨a, vs, h1, h2, h3⟩ => ⟨a, vs, h1, e.dk _ _ h2, DRk.sameU e h3⟩
  | .dT _, _, ⟨a, vs, h1, h2, h3⟩ => ⟨a, vs, h1, e.dt _ _ h2, DRt.sameU e h3⟩
  | .ins _ _, _, ⟨a, C, dx, us, h1, h2, h3, h4⟩ => ⟨a, C, dx, us, h1, e.keep _ _ h2 id, h3, DRf.sameU e h4⟩
theorem DRs.sameU (e : SameU G G') : ∀ {ds : List D} {vs : List V}, DRs c G ds vs → DRs c G' ds vs
  | [], _, h => h
  | _ :: _, _, ⟨v, r, h1, h2, h3⟩ => ⟨v, r, h1, DR.sameU e h2, DRs.sameU e h3⟩
theorem DRk.sameU (e : SameU G G') : ∀ {ds : List (Key × D)} {vs : List (Key × V)}, DRk c G ds vs → DRk c G' ds vs
  | [], _, h => h
  | (_, _) :: _, _, ⟨v, r, h1, h2, h3⟩ => ⟨v, r, h1, DR.sameU e h2, DRk.sameU e h3⟩
theorem DRt.sameU (e : SameU G G') : ∀ {ds : List (List Key × D)} {vs : List (List Key × V)}, DRt c G ds vs → DRt c G' ds vs
  | [], _, h => h
  | (_, _) :: _, _, ⟨v, r, h1, h2, h3⟩ => ⟨v, r, h1, DR.sameU e h2, DRt.sameU e h3⟩
theorem DRf.sameU (e : SameU G G') : ∀ {ds : List (Str × D)} {vs : List (Str × V)}, DRf c G ds vs → DRf c G' ds vs
  | [], _, h => h
  | (_, _) :: _, _, ⟨v, r, h1, h2, h3⟩ => ⟨v, r, h1, DR.sameU e h2, DRf.sameU e h3⟩
end
theorem DRs.pair : ∀ {ds : List D} {vs : List V}, DRs c G ds vs → Paired (fun v d => DR c G d v) vs ds
  | [], _, h => by cases h; exact .nil
  | _ :: _, _, ⟨v, r, h1, h2, h3⟩ => by cases h1; exact .cons h2 h3.pair
theorem DRs.of : ∀ {ds : List D} {vs : List V}, Paired (fun v d => DR c G d v) vs ds → DRs c G ds vs
  | _, _, .nil => rfl
  | _, _, .cons h t => ⟨_, _, rfl, h, DRs.of t⟩
theorem DRk.pair : ∀ {ds : List (Key × D)} {vs : List (Key × V)}, DRk c G ds vs → Paired (KD fun v d => DR c G d v) vs ds
  | [], _, h => by cases h; exact .nil
  | (_, _) :: _, _, ⟨v, r, h1, h2, h3⟩ => by cases h1; exact .cons ⟨rfl, h2⟩ h3.pair
theorem DRk.of : ∀ {ds : List (Key × D)} {vs : List (Key × V)}, Paired (KD fun v d => DR c G d v) vs ds → DRk c G ds vs
  | _, _, .nil => rfl
  | _, _, .cons (a := (_, _)) (b := (_, _)) ⟨e, h⟩ t => by cases e; exact ⟨_, _, rfl, h, DRk.of t⟩
theorem DRt.pair : ∀ {ds : List (List Key × D)} {vs : List (List Key × V)}, DRt c G ds vs → Paired (KD fun v d => DR c G d v) vs ds
  | [], _, h => by cases h; exact .nil
  | (_, _) :: _, _, ⟨v, r, h1, h2, h3⟩ => by cases h1; exact .cons ⟨rfl, h2⟩ h3.pair
theorem DRt.of : ∀ {ds : List (List Key × D)} {vs : List (List Key × V)}, Paired (KD fun v d => DR c G d v) vs ds → DRt c G ds vs
  | _, _, .nil => rfl
  | _, _, .cons (a := (_, _)) (b := (_, _)) ⟨e, h⟩ t => by cases e; exact ⟨_, _, rfl, h, DRt.of t⟩
theorem DRf.pair : ∀ {ds : List (Str × D)} {vs : List (Str × V)}, DRf c G ds vs → Paired (KD fun v d => DR c G d v) vs ds
  | [], _, h => by cases h; exact .nil
  | (_, _) :: _, _, ⟨v, r, h1, h2, h3⟩ => by cases h1; exact .cons ⟨rfl, h2⟩ h3.pair
theorem DRf.of : ∀ {ds : List (Str × D)} {vs : List (Str × V)}, Paired (KD fun v d => DR c G d v) vs ds → DRf c G ds vs
  | _, _, .nil => rfl
  | _, _, .cons (a := (_, _)) (b := (_, _)) ⟨e, h⟩ t => by cases e; exact ⟨_, _, rfl, h, DRf.of t⟩
end

/-! ### pairs -/
section
variable {α β γ : Type} {F G : α → β → Prop}
theorem paired_get : ∀ {l₁ : List α} {l₂ : List β} {i : Nat} {b : β}, Paired F l₁ l₂ → l₂[i]? = some b → ∃ a, l₁[i]? = some a ∧ F a b
  | _, _, _, _, .nil, e => by simp at e
  | _, _, 0, _, .cons r _, e => by simp at e; subst e; exact ⟨_, rfl, r⟩
  | _, _, i + 1, _, .cons _ t, e => by simpa using paired_get (i := i) t (by simpa using e)
theorem paired_getL : ∀ {l₁ : List α} {l₂ : List β} {i : Nat} {a : α}, Paired F l₁ l₂ → l₁[i]? = some a → ∃ b, l₂[i]? = some b ∧ F a b
  | _, _, _, _, .nil, e => by simp at e
  | _, _, 0, _, .cons r _, e => by simp at e; subst e; exact ⟨_, rfl, r⟩
  | _, _, i + 1, _, .cons _ t, e => by simpa using paired_getL (i := i) t (by simpa using e)
theorem paired_append : ∀ {l₁ : List α} {l₂ : List β} {m₁ : List α} {m₂ : List β}, Paired F l₁ l₂ → Paired F m₁ m₂ → Paired F (l₁ ++ m₁) (l₂ ++ m₂)
  | _, _, _, _, .nil, h => h
  | _, _, _, _, .cons r t, h => .cons r (paired_append t h)
theorem paired_take : ∀ (n : Nat) {l₁ : List α} {l₂ : List β}, Paired F l₁ l₂ → Paired F (l₁.take n) (l₂.take n)
  | 0, _, _, _ => by rw [List.take_zero, List.take_zero]; exact .nil
  | _ + 1, _, _, .nil => .nil
  | n + 1, _, _, .cons r t => .cons r (paired_take n t)
theorem paired_drop : ∀ (n : Nat) {l₁ : List α} {l₂ : List β}, Paired F l₁ l₂ → Paired F (l₁.drop n) (l₂.drop n)
  | 0, _, _, h => h
  | _ + 1, _, _, .nil => .nil
  | n + 1, _, _, .cons _ t => paired_drop n t
theorem paired_set {a : α} {b : β} (r : F a b) : ∀ (n : Nat) {l₁ : List α} {l₂ : List β}, Paired F l₁ l₂ → Paired F (l₁.set n a) (l₂.set n b)
  | _, _, _, .nil => .nil
  | 0, _, _, .cons _ t => .cons r t
  | n + 1, _, _, .cons q t => .cons q (paired_set r n t)
theorem paired_imp : ∀ {l₁ : List α} {l₂ : List β}, Paired F l₁ l₂ → (∀ a b, F a b → G a b) → Paired G l₁ l₂
  | _, _, .nil, _ => .nil
  | _, _, .cons r t, f => .cons (f _ _ r) (paired_imp t f)
theorem paired_map {δ : Type} {F : α → δ → Prop} (f : β → δ) : ∀ {l₁ : List α} {l₂ : List β}, Paired (fun a b => F a (f b)) l₁ l₂ → Paired F l₁ (l₂.map f)
  | _, _, .nil => .nil
  | _, _, .cons r t => .cons r (paired_map f t)
theorem paired_unmap {δ : Type} {F : α → δ → Prop} (f : β → δ) : ∀ {l₁ : List α} {l₂ : List β}, Paired F l₁ (l₂.map f) → Paired (fun a b => F a (f b)) l₁ l₂
  | _, [], h => by cases h; exact .nil
  | _, _ :: _, h => by cases h with | cons r t => exact .cons r (paired_unmap f t)
theorem paired_reverse {l₁ : List α} {l₂ : List β} (h : Paired F l₁ l₂) : Paired F l₁.reverse l₂.reverse := by
  induction h with
  | nil => exact .nil
  | cons r _ ih => rw [List.reverse_cons, List.reverse_cons]; exact paired_append ih (.cons r .nil)
end

/-! ### the state -/
def RA (c : Ctx) (w : Wd) (n : Nat) (v : V) : A → Prop
  | .d x => DR c w.G x v
  | .c i => i < n ∧ v = .ref (w.E i)
def CR (c : Ctx) (w : Wd) (n : Nat) (H : Hp) (a : Addr) : Cell → Prop
  | .lst xs => w.G a = none ∧ ∃ vs, H a = some (.lst vs) ∧ Paired (RA c w n) vs xs
  | .dK xs => w.G a = none ∧ ∃ us, H a = some (.dK us) ∧ Paired (KD (RA c w n)) us xs
  | .dT xs => w.G a = none ∧ ∃ us, H a = some (.dT us) ∧ Paired (KD (RA c w n)) us xs
  | .ins x fs => w.G a = none ∧ ∃ C dx us, H a = some (.ins C dx us) ∧ c.mg x = some (.ref C) ∧ Paired (KD (RA c w n)) us fs
  | .fz x => DR c w.G x (.ref a) ∧ H a ≠ none
structure RelS (c : Ctx) (w : Wd) (st : Store) (H : Hp) : Prop where
  same : Same w.G H
  inj : ∀ i j, i < st.length → j < st.length → w.E i = w.E j → i = j
  cell : ∀ i x, st[i]? = some x → CR c w st.length H (w.E i) x
structure Rel (c : Ctx) (w : Wd) (σa : Slots) (st : Store) (σ : L2.St) (H : Hp) : Prop where
  rs : RelS c w st H
  len : σ.length = σa.length
  sl : ∀ (i : Nat) (a : A), σa[i]? = some (some a) → ∃ v, σ[i]? = some (some v) ∧ RA c w st.length v a
structure Ext (w : Wd) (n : Nat) (w' : Wd) (n' : Nat) : Prop where
  same : Same w.G w'.G
  cells : ∀ i, i < n → w'.E i = w.E i
  le : n ≤ n'
theorem Ext.refl (w : Wd) (n : Nat) : Ext w n w n := ⟨.refl _, fun _ _ => rfl, Nat.le_refl _⟩
theorem Ext.trans {w w1 w2 : Wd} {n n1 n2 : Nat} (a : Ext w n w1 n1) (b : Ext w1 n1 w2 n2) : Ext w n w2 n2 :=
  ⟨a.same.trans b.same, fun i h => (b.cells i (Nat.lt_of_lt_of_le h a.le)).trans (a.cells i h), Nat.le_trans a.le b.le⟩
section
variable {c : Ctx} {w w' : Wd} {n n' : Nat} {H H' : Hp} {st : Store} {σa : Slots} {σ : L2.St}
theorem RA.ext {v : V} (e : Ext w n w' n') : ∀ {a : A}, RA c w n v a → RA c w' n' v a
  | .d _, h => DR.same e.same h
  | .c i, ⟨h1, h2⟩ => ⟨Nat.lt_of_lt_of_le h1 e.le, by rw [e.cells i h1]; exact h2⟩
theorem ras_ext {vs : List V} {as : List A} (e : Ext w n w' n') (h : Paired (RA c w n) vs as) : Paired (RA c w' n') vs as := paired_imp h fun _ _ => RA.ext e
theorem kas_ext {κ : Type} {vs : List (κ × V)} {as : List (κ × A)} (e : Ext w n w' n') (h : Paired (KD (RA c w n)) vs as) : Paired (KD (RA c w' n')) vs as := paired_imp h fun _ _ q => ⟨q.1, RA.ext e q.2⟩
/-- a cell's object is tracked -/
theorem CR.there {a : Addr} (sm : Same w.G H) : ∀ {x : Cell}, CR c w n H a x → H a ≠ none
  | .lst _, ⟨_, _, h, _⟩ => by rw [h]; exact fun z => nomatch z
  | .dK _, ⟨_, _, h, _⟩ => by rw [h]; exact fun z => nomatch z
  | .dT _, ⟨_, _, h, _⟩ => by rw [h]; exact fun z => nomatch z
  | .ins _ _, ⟨_, _, _, _, h, _⟩ => by rw [h]; exact fun z => nomatch z
  | .fz _, ⟨_, h⟩ => h
/-- a cell stays: its object does, the ghost grows elsewhere -/
theorem CR.stay {a : Addr} (e : Ext w n w' n') (hG : w.G a = none → w'.G a = none) (hH : H' a = H a) : ∀ {x : Cell}, CR c w n H a x → CR c w' n' H' a x
  | .lst _, ⟨g, vs, h, p⟩ => ⟨hG g, vs, by rw [hH]; exact h, ras_ext e p⟩
  | .dK _, ⟨g, vs, h, p⟩ => ⟨hG g, vs, by rw [hH]; exact h, kas_ext e p⟩
  | .dT _, ⟨g, vs, h, p⟩ => ⟨hG g, vs, by rw [hH]; exact h, kas_ext e p⟩
  | .ins _ _, ⟨g, C, dx, us, h, m, p⟩ => ⟨hG g, C, dx, us, by rw [hH]; exact h, m, kas_ext e p⟩
  | .fz _, ⟨h, t⟩ => ⟨DR.same e.same h, by rw [hH]; exact t⟩
theorem RelS.ne (r : RelS c w st H) {i : Nat} {x : Cell} {p : Addr} (h : st[i]? = some x) (hp : H p = none) : w.E i ≠ p := fun z => by
  have := (r.cell i x h).there r.same
  rw [z] at this
  exact this hp
theorem RelS.lt {i : Nat} {x : Cell} (h : st[i]? = some x) : i < st.length := (List.getElem?_eq_some_iff.mp h).1
theorem RelS.get {i : Nat} (h : i < st.length) : ∃ x, st[i]? = some x := ⟨_, List.getElem?_eq_getElem h⟩
/-- new data at p -/
def Wd.put (w : Wd) (p : Addr) (o : HO) : Wd := ⟨upd w.G p o, w.E⟩
theorem same_upd {G : Hp} {p : Addr} {o : HO} (h : G p = none) : Same G (upd G p o) := fun b x e => by
  rw [upd_ne (ne_of_none e h)]
  exact e
theorem same_upd2 {G H : Hp} {p : Addr} {o : HO} (s : Same G H) : Same (upd G p o) (upd H p o) := fun b x e => by
  by_cases hb : b = p
  · subst hb; rw [upd_same] at e ⊢; exact e
  · rw [upd_ne hb] at e ⊢; exact s b x e
theorem Wd.put_ext (w : Wd) {p : Addr} {o : HO} {n : Nat} (h : w.G p = none) : Ext w n (w.put p o) n := ⟨same_upd h, fun _ _ => rfl, Nat.le_refl _⟩
theorem RelS.put (r : RelS c w st H) {p : Addr} {o : HO} (hp : H p = none) : RelS c (w.put p o) st (upd H p o) where
  same := same_upd2 r.same
  inj := r.inj
  cell := fun i x h => by
    have ne := r.ne h hp
    exact (r.cell i x h).stay (w.put_ext (r.same.free hp)) (fun g => by show upd w.G p o (w.E i) = none; rw [upd_ne ne]; exact g) (upd_ne ne)
/-- a new cell at p -/
def Wd.cell (w : Wd) (n : Nat) (p : Addr) : Wd := ⟨w.G, fun i => if i = n then p else w.E i⟩
theorem Wd.cell_at (w : Wd) (n : Nat) (p : Addr) : (w.cell n p).E n = p := if_pos rfl
theorem Wd.cell_old (w : Wd) {n i : Nat} {p : Addr} (h : i < n) : (w.cell n p).E i = w.E i := if_neg (Nat.ne_of_lt h)
theorem Wd.cell_ext (w : Wd) (n : Nat) (p : Addr) : Ext w n (w.cell n p) (n + 1) := ⟨.refl _, fun _ h => w.cell_old h, Nat.le_succ _⟩
theorem RelS.push (r : RelS c w st H) {p : Addr} {o : HO} {x : Cell} (hp : H p = none) (hx : CR c (w.cell st.length p) (st.length + 1) (upd H p o) p x) : RelS c (w.cell st.length p) (st ++ [x]) (upd H p o) where
  same := fun b y e => by
    have e : w.G b = some y := e
    rw [upd_ne fun z => by rw [z, r.same.free hp] at e; cases e]
    exact r.same b y e
  inj := fun i j hi hj e => by
    rw [List.length_append, List.length_singleton] at hi hj
    by_cases h1 : i = st.length
    · by_cases h2 : j = st.length
      · rw [h1, h2]
      · subst h1
        rw [w.cell_at, w.cell_old (by omega)] at e
        obtain ⟨y, hy⟩ := RelS.get (st := st) (i := j) (by omega)
        exact absurd e.symm (r.ne hy hp)
    · by_cases h2 : j = st.length
      · subst h2
        rw [w.cell_at, w.cell_old (by omega)] at e
        obtain ⟨y, hy⟩ := RelS.get (st := st) (i := i) (by omega)
        exact absurd e (r.ne hy hp)
      · rw [w.cell_old (by omega), w.cell_old (by omega)] at e
        exact r.inj i j (by omega) (by omega) e
  cell := fun i y h => by
    rw [List.length_append, List.length_singleton]
    by_cases hi : i < st.length
    · rw [List.getElem?_append_left hi] at h
      rw [w.cell_old hi]
      exact (r.cell i y h).stay (w.cell_ext _ _) (fun g => g) (upd_ne (r.ne h hp))
    · have hl := RelS.lt h
      rw [List.length_append, List.length_singleton] at hl
      have : i = st.length := by omega
      subst this
      rw [List.getElem?_append_right (Nat.le_refl _), Nat.sub_self] at h
      cases h
      rw [w.cell_at]
      exact hx
/-- a cell is written -/
theorem RelS.write (r : RelS c w st H) {i : Nat} {x y : Cell} {o : HO} (h : st[i]? = some x) (g : w.G (w.E i) = none) (hy : CR c w st.length (upd H (w.E i) o) (w.E i) y) : RelS c w (st.set i y) (upd H (w.E i) o) where
  same := fun b z e => by
    rw [upd_ne fun q => by rw [q, g] at e; cases e]
    exact r.same b z e
  inj := fun j k hj hk => by
    rw [List.length_set] at hj hk
    exact r.inj j k hj hk
  cell := fun j z hz => by
    rw [List.length_set]
    by_cases e : j = i
    · subst e
      rw [List.getElem?_set_self (RelS.lt h)] at hz
      cases hz
      exact hy
    · rw [List.getElem?_set_ne (Ne.symm e)] at hz
      exact (r.cell j z hz).stay (Ext.refl _ _) (fun g => g) (upd_ne fun q => e (r.inj j i (RelS.lt hz) (RelS.lt h) q))
theorem Rel.put (r : Rel c w σa st σ H) {p : Addr} {o : HO} (hp : H p = none) : Rel c (w.put p o) σa st σ (upd H p o) :=
  ⟨r.rs.put hp, r.len, fun i a h => let ⟨v, e, q⟩ := r.sl i a h; ⟨v, e, q.ext (w.put_ext (r.rs.same.free hp))⟩⟩
theorem Rel.push (r : Rel c w σa st σ H) {p : Addr} {o : HO} {x : Cell} (hp : H p = none) (hx : CR c (w.cell st.length p) (st.length + 1) (upd H p o) p x) : Rel c (w.cell st.length p) σa (st ++ [x]) σ (upd H p o) :=
  ⟨r.rs.push hp hx, r.len, fun i a h => let ⟨v, e, q⟩ := r.sl i a h; ⟨v, e, by rw [List.length_append]; exact q.ext (w.cell_ext _ _)⟩⟩
theorem Rel.write (r : Rel c w σa st σ H) {i : Nat} {x y : Cell} {o : HO} (h : st[i]? = some x) (g : w.G (w.E i) = none) (hy : CR c w st.length (upd H (w.E i) o) (w.E i) y) : Rel c w σa (st.set i y) σ (upd H (w.E i) o) :=
  ⟨r.rs.write h g hy, r.len, by rw [List.length_set]; exact r.sl⟩
theorem Rel.set (r : Rel c w σa st σ H) {i : Nat} {v : V} {a : A} (h : RA c w st.length v a) : Rel c w (σa.set i (some a)) st (σ.set i (some v)) H :=
  ⟨r.rs, by rw [List.length_set, List.length_set]; exact r.len, fun j b hb => by
    by_cases e : j = i
    · subst e
      by_cases hl : j < σa.length
      · rw [List.getElem?_set_self hl] at hb
        cases hb
        exact ⟨v, List.getElem?_set_self (by rw [r.len]; exact hl), h⟩
      · rw [List.getElem?_eq_none (by rw [List.length_set]; omega)] at hb
        cases hb
    · rw [List.getElem?_set_ne (Ne.symm e)] at hb
      obtain ⟨u, e1, q⟩ := r.sl j b hb
      exact ⟨u, by rw [List.getElem?_set_ne (Ne.symm e)]; exact e1, q⟩⟩
/-- a slot forgotten -/
theorem Rel.drop (r : Rel c w σa st σ H) {σb : Slots} (hl : σb.length = σa.length) (h : ∀ (i : Nat) (a : A), σb[i]? = some (some a) → σa[i]? = some (some a)) : Rel c w σb st σ H :=
  ⟨r.rs, by rw [r.len, hl], fun i a e => r.sl i a (h i a e)⟩
end
end Am
/-! ### Am: readings by the machine; expressions -/
namespace Am
open PySem PySem.Spec PyProof.Rows L2
section
variable {X : Cx} {e : Expr} {st : Stmt} {ss : List Stmt} {es : List Expr}
theorem pe_imp {t t' : TE} (h : PE X e t) (i : ∀ σ H Q, t' σ H Q → t σ H Q) : PE X e t' := ⟨fun pins s σ H Q I q => h.run pins s σ H Q I (i σ H Q q)⟩
theorem pt_imp {t t' : TT} (h : PT X e t) (i : ∀ σ H Q, t' σ H Q → t σ H Q) : PT X e t' := ⟨fun pins s σ H Q I q => h.run pins s σ H Q I (i σ H Q q)⟩
theorem pw_imp {t t' : TT} (h : PW X e t) (i : ∀ σ H Q, t' σ H Q → t σ H Q) : PW X e t' := ⟨fun wh pins s σ H Q I q => h.run wh pins s σ H Q I (i σ H Q q)⟩
theorem pa_imp {t t' : TA} (h : PA X es t) (i : ∀ σ H Q, t' σ H Q → t σ H Q) : PA X es t' := ⟨fun p pins s σ H Q I q => h.run p pins s σ H Q I (i σ H Q q)⟩
theorem ps_imp {t t' : TS} (h : PS X st t) (i : ∀ D σ H, t' D σ H → t D σ H) : PS X st t' := ⟨fun pins s σ H D I q => h.run pins s σ H D I (i D σ H q)⟩
theorem pss_imp {t t' : TS} (h : PSs X ss t) (i : ∀ D σ H, t' D σ H → t D σ H) : PSs X ss t' := ⟨fun pins s σ H D I q => h.run pins s σ H D I (i D σ H q)⟩
end
/-- how an exception lies -/
def RX (c : Ctx) (w : Wd) (x : Exn) (cls : Value) (d : Option Addr) : Prop :=
  ∃ C, cls = .ref C ∧ c.mg x.cls = some (.ref C) ∧ match x.fs with
    | none => d = none
    | some fs => ∃ a us, d = some a ∧ w.G a = some (.xd us) ∧ DRf c w.G fs us
def Post {α β : Type} (c : Ctx) (w : Wd) (n : Nat) (σa : Slots) (σ : L2.St) (R : Wd → Nat → β → α → Prop) (W : WX) (Q : β → Hp → Prop) : Res α → Prop
  | .ok a st => ∀ v w' H', Ext w n w' st.length → Rel c w' σa st σ H' → R w' st.length v a → Q v H'
  | .ex x st => ∀ cls d w' H', Ext w n w' st.length → Rel c w' σa st σ H' → RX c w' x cls d → W cls d σ H'
  | .no => False
section
variable {α β α' β' : Type} {c : Ctx} {w w1 : Wd} {n n1 : Nat} {σa : Slots} {st : Store} {σ : L2.St} {H : Hp} {W : WX}
theorem Post.mono {R : Wd → Nat → β → α → Prop} {Q : β → Hp → Prop} (e : Ext w n w1 n1) : ∀ {r : Res α}, Post c w n σa σ R W Q r → Post c w1 n1 σa σ R W Q r
  | .ok _ _, h => fun v w' H' e' => h v w' H' (e.trans e')
  | .ex _ _, h => fun v d w' H' e' => h v d w' H' (e.trans e')
  | .no, h => h
theorem Post.bind {R : Wd → Nat → β → α → Prop} {R' : Wd → Nat → β' → α' → Prop} {Q : β → Hp → Prop} {Q' : β' → Hp → Prop} {k : α' → Store → Res α} :
    ∀ {r : Res α'}, Post c w n σa σ R W Q (r.bind k) → (∀ v a st1 w1 H1, Ext w n w1 st1.length → Rel c w1 σa st1 σ H1 → R' w1 st1.length v a → Post c w1 st1.length σa σ R W Q (k a st1) → Q' v H1) → Post c w n σa σ R' W Q' r
  | .ok a st1, h, f => fun v w1 H1 e1 r1 ra => f v a st1 w1 H1 e1 r1 ra (Post.mono e1 h)
  | .ex _ _, h, _ => h
  | .no, h, _ => h
/-- nothing is changed -/
theorem Post.here {R : Wd → Nat → β → α → Prop} {Q : β → Hp → Prop} {a : α} {v : β} (h : Post c w st.length σa σ R W Q (.ok a st)) (r : Rel c w σa st σ H) (ra : R w st.length v a) : Q v H := h v w H (Ext.refl _ _) r ra
end
section
variable (c : Ctx) (W : WX)
def tM (f : ME) : TE := fun σ H Q => ∃ w σa st, Rel c w σa st σ H ∧ Post c w st.length σa σ (RA c) W Q (f σa st)
def tT (f : MT) : TT := fun σ H Q => ∃ w σa st, Rel c w σa st σ H ∧ Post c w st.length σa σ (fun _ _ b b' => b = b') W Q (f σa st)
def tMA (f : MA) : TA := fun σ H Q => ∃ w σa st, Rel c w σa st σ H ∧ Post c w st.length σa σ (fun w n => Paired (RA c w n)) W Q (f σa st)
end
/-- the module's facts are those of c -/
structure Fits (X : Cx) (c : Ctx) : Prop where
  K : X.K = c.K
  mg : X.mg = c.mg

/-! ### the machine's expressions -/
def mVar (i : Nat) : ME := fun σ st => match σ[i]? with
  | some (some a) => .ok a st
  | _ => .no
def mC (x : D) : ME := fun _ st => .ok (.d x) st
def mBin (g : A → A → Store → Res A) (fa fb : ME) : ME := fun σ st => (fa σ st).bind fun x st1 => (fb σ st1).bind fun y st2 => g x y st2
def mUn (g : A → Store → Res A) (fa : ME) : ME := fun σ st => (fa σ st).bind g
def mTst (f : ME) : MT := fun σ st => (f σ st).bind fun a st1 => match a with
  | .d (.bl b) => .ok b st1
  | _ => .no
def mNil : MA := fun _ st => .ok [] st
def mCons (fa : ME) (fr : MA) : MA := fun σ st => (fa σ st).bind fun x st1 => (fr σ st1).bind fun xs st2 => .ok (x :: xs) st2
section
variable {X : Cx} {c : Ctx} {W : WX} {a b e : Expr} {es rest : List Expr} {fa fb f : ME} {fr : MA} {pos : Pos}
theorem e_var {i : Nat} {x : Str} (hN : X.N[i]? = some x := by rfl) (hv : Vis X.env.scope x := by first | exact Or.inl rfl | exact Or.inr (Or.inl rfl) | exact Or.inr (Or.inr rfl)) (hd : (x == ("__debug__" : Str)) = false := by decide)
    (hcd : (x == ("__classdict__" : Str)) = false := by decide) : PE X (.Name x pos) (tM c W (mVar i)) :=
  pe_imp (pe_var hN hv hd hcd) fun σ H Q ⟨w, σa, st, r, p⟩ => by
    unfold mVar at p
    split at p
    · rename_i a h
      obtain ⟨v, e, ra⟩ := r.sl i a h
      exact ⟨v, e, p.here r ra⟩
    · exact p.elim
theorem e_c {v : V} {x : D} (h : PE X e (tC v)) (r : ∀ G, DR c G x v) : PE X e (tM c W (mC x)) := pe_imp h fun _ _ _ ⟨w, _, _, rl, p⟩ => p.here rl (r w.G)
theorem e_int {i j} : PE X (.Constant (.int i) j pos) (tM c W (mC (.int i))) := e_c (v := V.int i) pe_int fun _ => rfl
theorem e_bl {i j} : PE X (.Constant (.bool i) j pos) (tM c W (mC (.bl i))) := e_c (v := V.bl i) pe_bl fun _ => rfl
theorem e_str {i j} : PE X (.Constant (.str i) j pos) (tM c W (mC (.str i))) := e_c (v := V.str i) pe_str fun _ => rfl
theorem e_non {j} : PE X (.Constant .none j pos) (tM c W (mC .non)) := e_c (v := V.non) pe_non fun _ => rfl

/-! a two-place operation by values -/
def OpA (c : Ctx) (r : R2) (g : A → A → Store → Res A) : Prop := ∀ (w : Wd) (σa : Slots) (st : Store) (σ : L2.St) (H : Hp) (x y : A) (v u : V) (W : WX) (Q : VK),
  Rel c w σa st σ H → RA c w st.length v x → RA c w st.length u y → Post c w st.length σa σ (RA c) W Q (g x y st) → r v u H Q
theorem OpA.or1 {r r' : R2} {g : A → A → Store → Res A} (h : OpA c r g) : OpA c (fun x y H Q => r x y H Q ∨ r' x y H Q) g := fun w σa st σ H x y v u W Q rl rx ry p => .inl (h w σa st σ H x y v u W Q rl rx ry p)
def UnA (c : Ctx) (r : V → Hp → VK → Prop) (g : A → Store → Res A) : Prop := ∀ (w : Wd) (σa : Slots) (st : Store) (σ : L2.St) (H : Hp) (x : A) (v : V) (W : WX) (Q : VK),
  Rel c w σa st σ H → RA c w st.length v x → Post c w st.length σa σ (RA c) W Q (g x st) → r v H Q
theorem entail_op {r : R2} {g : A → A → Store → Res A} (hg : OpA c r g) (σ : L2.St) (H : Hp) (Q : VK) : tM c W (mBin g fa fb) σ H Q → tOp r (tM c W fa) (tM c W fb) σ H Q := fun ⟨w, σa, st, rl, p⟩ =>
  ⟨w, σa, st, rl, p.bind fun v x st1 w1 H1 _ rl1 rx p1 => ⟨w1, σa, st1, rl1, p1.bind fun u y st2 w2 H2 e2 rl2 ry p2 => hg w2 σa st2 σ H2 x y v u W Q rl2 (rx.ext e2) ry p2⟩⟩
theorem entail_un {r : V → Hp → VK → Prop} {g : A → Store → Res A} (hg : UnA c r g) (σ : L2.St) (H : Hp) (Q : VK) : tM c W (mUn g fa) σ H Q → tUn r (tM c W fa) σ H Q := fun ⟨w, σa, st, rl, p⟩ =>
  ⟨w, σa, st, rl, p.bind fun v x st1 w1 H1 _ rl1 rx p1 => hg w1 σa st1 σ H1 x v W Q rl1 rx p1⟩
theorem entail_tst {Q : Bool → Hp → Prop} {σ : L2.St} {H : Hp} : tT c W (mTst f) σ H Q → tM c W f σ H fun x H' => ∃ k, x = .bl k ∧ Q k H' := fun ⟨w, σa, st, rl, p⟩ =>
  ⟨w, σa, st, rl, p.bind fun v x st1 w1 H1 _ rl1 rx p1 => by
    split at p1
    · exact ⟨_, rx, p1.here rl1 rfl⟩
    · exact p1.elim⟩
theorem e_bin {op : Operator} {r : R2} {g : A → A → Store → Res A} (ho : OpR X (binaryOp op) r) (hg : OpA c r g) (ha : PE X a (tM c W fa)) (hb : PE X b (tM c W fb)) : PE X (.BinOp a op b pos) (tM c W (mBin g fa fb)) :=
  pe_imp (pe_op ho ha hb) (entail_op hg)
theorem e_un {op : UnaryOp} {r : V → Hp → VK → Prop} {g : A → Store → Res A} (ho : UnR X (unaryOp op) r) (hg : UnA c r g) (ha : PE X a (tM c W fa)) : PE X (.UnaryOp op a pos) (tM c W (mUn g fa)) :=
  pe_imp (pe_un ho ha) (entail_un hg)
theorem e_cmp {op : CmpOp} {r : R2} {g : A → A → Store → Res A} (ho : OpR X (compareOp op) r) (hg : OpA c r g) (ha : PE X a (tM c W fa)) (hb : PE X b (tM c W fb)) (hm : behindInMarks op b = false := by rfl) :
    PE X (.Compare a [op] [b] pos) (tM c W (mBin g fa fb)) := pe_imp (pe_cmpR ho ha hb hm) (entail_op hg)
theorem t_cmp {op : CmpOp} {r : R2} {g : A → A → Store → Res A} (ho : OpR X (compareOp op) r) (hg : OpA c r g) (ha : PE X a (tM c W fa)) (hb : PE X b (tM c W fb)) (hm : behindInMarks op b = false := by rfl) :
    PT X (.Compare a [op] [b] pos) (tT c W (mTst (mBin g fa fb))) := pt_imp (pt_cmpR ho ha hb hm) fun _ _ _ h => entail_op hg _ _ _ (entail_tst h)
/-- an expression as a test, by its value's truth -/
theorem t_val (h : PE X e (tM c W f)) (he : ∀ whole, isTrue e X.env whole = (do let v ← whole; standAt e.pos; holding [v] (truthy v)) := by intro _; rfl) : PT X e (tT c W (mTst f)) :=
  pt_imp (pt_val h he) fun _ _ _ h => entail_tst h
/-! argument lists -/
theorem a_nil : PA X [] (tMA c W mNil) := pa_imp pa_nil fun _ _ _ ⟨_, _, _, rl, p⟩ => p.here rl .nil
theorem a_cons (ha : PE X e (tM c W fa)) (hr : PA X es (tMA c W fr)) (hs : starEach (e :: es) X.env = (false, eval e X.env) :: starEach es X.env := by rfl) : PA X (e :: es) (tMA c W (mCons fa fr)) :=
  pa_imp (pa_cons ha hr hs) fun σ H Q ⟨w, σa, st, rl, p⟩ => ⟨w, σa, st, rl, p.bind fun v x st1 w1 H1 _ rl1 rx p1 => ⟨w1, σa, st1, rl1, p1.bind fun vs xs st2 w2 H2 e2 rl2 rxs p2 => p2.here rl2 (.cons (rx.ext e2) rxs)⟩⟩
end

/-! ### lists -/
def SZ : Nat := 16000000
theorem SZ_le {n : Nat} (h : n ≤ SZ) : n ≤ sizeLine := Nat.le_trans h (by decide)
theorem SZ_lt {n : Nat} (h : n ≤ SZ) : n < sizeLine := Nat.lt_of_le_of_lt h (by decide)
def allD : List A → Option (List D)
  | [] => some []
  | .d x :: r => (allD r).map (x :: ·)
  | .c _ :: _ => none
theorem allD_map : ∀ (xs : List D), allD (xs.map A.d) = some xs
  | [] => rfl
  | x :: xs => by rw [List.map_cons, allD, allD_map xs]; rfl
theorem allD_eq : ∀ {xs : List A} {ds : List D}, allD xs = some ds → xs = ds.map A.d
  | [], _, h => by cases h; rfl
  | .d x :: r, ds, h => by
    rw [allD] at h
    obtain ⟨r', h1, rfl⟩ := Option.map_eq_some_iff.mp h
    rw [allD_eq h1]; rfl
  | .c _ :: _, _, h => by cases h
/-- the items of a list; of a list or a tuple -/
def viewL (st : Store) : A → Option (List A)
  | .d (.list ds) => some (ds.map .d)
  | .c i => match st[i]? with
    | some (.lst xs) => some xs
    | some (.fz (.list ds)) => some (ds.map .d)
    | _ => none
  | _ => none
def viewS (st : Store) : A → Option (List A)
  | .d (.scr ds) => some (ds.map .d)
  | x => viewL st x
def viewT : A → Option (List D)
  | .d (.tup ds) => some ds
  | .d (.kt ds) => some ds
  | _ => none
/-- a new list: a cell if k, data if not -/
noncomputable def mkL (k : Bool) (xs : List A) (st : Store) : Res A :=
  ifc (xs.length ≤ SZ) (if k then .ok (.c st.length) (st ++ [.lst xs]) else match allD xs with
      | some ds => .ok (.d (.list ds)) st
      | none => .no) .no
noncomputable def mkT (xs : List A) (st : Store) : Res A :=
  ifc (xs.length ≤ SZ) (match allD xs with
    | some ds => .ok (.d (.tup ds)) st
    | none => .no) .no
section
variable {c : Ctx} {w : Wd} {n : Nat} {σa : Slots} {st : Store} {σ : L2.St} {H : Hp} {W : WX}
theorem DR.rd {a : Addr} {vs : List V} (sm : Same w.G H) (h : w.G a = some (.lst vs)) : H a = some (.lst vs) := sm _ _ h
theorem ras_d {vs : List V} {ds : List D} (h : DRs c w.G ds vs) : Paired (RA c w n) vs (ds.map A.d) := paired_map A.d h.pair
theorem ras_of_d {vs : List V} {ds : List D} (h : Paired (RA c w n) vs (ds.map A.d)) : DRs c w.G ds vs := DRs.of (paired_unmap A.d h)
theorem viewL_ok (rl : RelS c w st H) : ∀ {x : A} {v : V} {xs : List A}, RA c w st.length v x → viewL st x = some xs → ∃ a vs, v = .ref a ∧ H a = some (.lst vs) ∧ Paired (RA c w st.length) vs xs
  | .d x, v, xs, r, h => by
    cases x with
    | list ds =>
      cases h
      obtain ⟨a, vs, rfl, e, p⟩ := r
      exact ⟨a, vs, rfl, rl.same _ _ e, ras_d p⟩
    | _ => cases h
  | .c i, v, xs, ⟨h1, h2⟩, h => by
    have h : (match st[i]? with | some (.lst xs) => some xs | some (.fz (.list ds)) => some (ds.map .d) | _ => none) = some xs := h
    split at h
    · rename_i q
      cases h
      obtain ⟨_, vs, e, p⟩ := rl.cell _ _ q
      exact ⟨_, vs, h2, e, p⟩
    · rename_i q
      cases h
      obtain ⟨⟨a, vs, e0, e, p⟩, _⟩ := rl.cell _ _ q
      cases e0
      exact ⟨_, vs, h2, rl.same _ _ e, ras_d p⟩
    · cases h
theorem viewS_ok (rl : RelS c w st H) {x : A} {v : V} {xs : List A} (r : RA c w st.length v x) (h : viewS st x = some xs) : ∃ a vs, v = .ref a ∧ SqL c.K H a vs ∧ Paired (RA c w st.length) vs xs := by
  unfold viewS at h
  split at h
  · cases h
    obtain ⟨a, vs, rfl, e, p⟩ := r
    exact ⟨a, vs, rfl, rl.same.seq e, ras_d p⟩
  · obtain ⟨a, vs, e, h, p⟩ := viewL_ok rl r h
    exact ⟨a, vs, e, .of h, p⟩
theorem viewT_ok (rl : RelS c w st H) {x : A} {v : V} {xs : List D} (r : RA c w st.length v x) (h : viewT x = some xs) : ∃ a vs, v = .ref a ∧ SqT c.K H a vs ∧ DRs c w.G xs vs := by
  unfold viewT at h
  split at h
  · cases h
    obtain ⟨a, vs, rfl, e, p⟩ := r
    exact ⟨a, vs, rfl, .of (rl.same _ _ e), p⟩
  · cases h
    obtain ⟨a, vs, rfl, e, p⟩ := r
    exact ⟨a, vs, rfl, same_t rl.same e, p⟩
  · cases h
theorem mkL_ok {k : Bool} {xs : List A} {vs : List V} {Q : VK} (rl : Rel c w σa st σ H) (r : Paired (RA c w st.length) vs xs) (p : Post c w st.length σa σ (RA c) W Q (mkL k xs st)) : vs.length ≤ sizeLine ∧ ∀ q, H q = none → Q (.ref q) (upd H q (.lst vs)) := by
  unfold mkL ifc at p
  split at p
  · rename_i hl
    refine ⟨by rw [r.length]; exact SZ_le hl, fun q hq => ?_⟩
    cases k with
    | true =>
      refine p _ _ _ (by rw [List.length_append]; exact w.cell_ext st.length q) (rl.push (o := .lst vs) hq ⟨rl.rs.same.free hq, vs, upd_same, ras_ext (w.cell_ext st.length q) r⟩) ⟨?_, ?_⟩
      · rw [List.length_append]; exact Nat.lt_succ_self _
      · rw [w.cell_at]
    | false =>
      simp only [Bool.false_eq_true, if_false] at p
      split at p
      · rename_i ds hd
        rw [allD_eq hd] at r
        have g := rl.rs.same.free hq
        exact p _ _ _ (w.put_ext g) (rl.put hq) ⟨q, vs, rfl, upd_same, (ras_of_d r).same (same_upd g)⟩
      · exact p.elim
  · exact p.elim
theorem mkT_ok {xs : List A} {vs : List V} {Q : VK} (rl : Rel c w σa st σ H) (r : Paired (RA c w st.length) vs xs) (p : Post c w st.length σa σ (RA c) W Q (mkT xs st)) : vs.length ≤ sizeLine ∧ ∀ q, H q = none → Q (.ref q) (upd H q (.tup vs)) := by
  unfold mkT ifc at p
  split at p
  · rename_i hl
    refine ⟨by rw [r.length]; exact SZ_le hl, fun q hq => ?_⟩
    split at p
    · rename_i ds hd
      rw [allD_eq hd] at r
      have g := rl.rs.same.free hq
      exact p _ _ _ (w.put_ext g) (rl.put hq) ⟨q, vs, rfl, upd_same, (ras_of_d r).same (same_upd g)⟩
    · exact p.elim
  · exact p.elim
end
noncomputable def mList (k : Bool) (fr : MA) : ME := fun σ st => (fr σ st).bind fun xs st1 => mkL k xs st1
noncomputable def mTup (fr : MA) : ME := fun σ st => (fr σ st).bind fun xs st1 => mkT xs st1
section
variable {X : Cx} {c : Ctx} {W : WX} {a b e : Expr} {es rest : List Expr} {fa fb f : ME} {fr : MA} {pos : Pos}
theorem e_list (k : Bool) (h : PA X es (tMA c W fr)) : PE X (.List es pos) (tM c W (mList k fr)) := pe_imp (pe_lst h) fun σ H Q ⟨w, σa, st, rl, p⟩ =>
  ⟨w, σa, st, rl, p.bind fun vs xs st1 w1 H1 _ rl1 r p1 => mkL_ok rl1 r p1⟩
theorem e_tup {x1} (h : PA X es (tMA c W fr)) : PE X (.Tuple es x1 pos) (tM c W (mTup fr)) := pe_imp (pe_tup h) fun σ H Q ⟨w, σa, st, rl, p⟩ =>
  ⟨w, σa, st, rl, p.bind fun vs xs st1 w1 H1 _ rl1 r p1 => mkT_ok rl1 r p1⟩
end
end Am
/-! ### Am: operations by values -/
namespace Am
open PySem PySem.Spec PyProof.Rows L2
open Classical in
/-- the machine goes on only where p holds -/
noncomputable def need {α : Type} (p : Prop) (r : Res α) : Res α := if p then r else .no
theorem need_pos {α : Type} {p : Prop} {r : Res α} (h : p) : need p r = r := by unfold need; exact if_pos h
section
variable {α β : Type} {c : Ctx} {w : Wd} {n : Nat} {σa : Slots} {σ : L2.St} {W : WX} {R : Wd → Nat → β → α → Prop} {Q : β → Hp → Prop} {p : Prop} {r : Res α}
theorem Post.need (h : Post c w n σa σ R W Q (need p r)) : p ∧ Post c w n σa σ R W Q r := by
  unfold Am.need at h
  by_cases q : p
  · rw [if_pos q] at h; exact ⟨q, h⟩
  · rw [if_neg q] at h; exact h.elim
end
/-! two ints -/
noncomputable def gI (C : Int → Int → Prop) (g : Int → Int → D) : A → A → Store → Res A
  | .d (.int i), .d (.int j), st => need (C i j) (.ok (.d (g i j)) st)
  | _, _, _ => .no
def gI0 (g : Int → Int → D) : A → A → Store → Res A
  | .d (.int i), .d (.int j), st => .ok (.d (g i j)) st
  | _, _, _ => .no
section
variable {c : Ctx}
theorem gI0_ok {f : Int → Int → V} {g : Int → Int → D} (h : ∀ G i j, DR c G (g i j) (f i j)) : OpA c (rI0 f) (gI0 g) := by
  intro w σa st σ H x y v u W Q rl rx ry p
  unfold gI0 at p
  split at p
  · exact ⟨_, _, rx, ry, p.here rl (h _ _ _)⟩
  · exact p.elim
theorem gI_ok {C : Int → Int → Prop} {f : Int → Int → V} {g : Int → Int → D} (h : ∀ G i j, DR c G (g i j) (f i j)) : OpA c (rI C f) (gI C g) := by
  intro w σa st σ H x y v u W Q rl rx ry p
  unfold gI at p
  split at p
  · obtain ⟨hc, p⟩ := p.need
    exact ⟨_, _, rx, ry, hc, p.here rl (h _ _ _)⟩
  · exact p.elim
end
abbrev gSub := gI0 fun i j => .int (i - j)
abbrev gXor := gI0 fun i j => .int (Builtin.bitXor i j)
abbrev gAnd := gI0 fun i j => .int (Builtin.bitAnd i j)
def CDivA (i j : Int) : Prop := CDiv i j ∨ CDivW i j
def CMulA (i j : Int) : Prop := CMul i j ∨ CMulW i j
noncomputable abbrev gFdiv := gI CDivA fun i j => .int (i / j)
noncomputable abbrev gMod := gI (fun _ j => 0 < j) fun i j => .int (i % j)
noncomputable abbrev gPow := gI CPow fun i j => .int (i ^ j.toNat)
abbrev gLt := gI0 fun i j => .bl (decide (i < j))
abbrev gLe := gI0 fun i j => .bl (decide (i ≤ j))
abbrev gGt := gI0 fun i j => .bl (decide (j < i))
abbrev gGe := gI0 fun i j => .bl (decide (j ≤ i))
section
variable {X : Cx} {c : Ctx} {W : WX} {a b e : Expr} {fa fb : ME} {pos : Pos}
theorem rI_or {f : Value → Value → Sem Value} {C C' : Int → Int → Prop} {g : Int → Int → V} (h : OpR X f (rI C g)) (h' : OpR X f (rI C' g)) : OpR X f (rI (fun i j => C i j ∨ C' i j) g) := by
  intro pins s σ H x y v u Q I rx ry ⟨i, j, e1, e2, hc, q⟩
  rcases hc with hc | hc
  · exact h pins s σ H x y v u Q I rx ry ⟨i, j, e1, e2, hc, q⟩
  · exact h' pins s σ H x y v u Q I rx ry ⟨i, j, e1, e2, hc, q⟩
theorem e_sub (ha : PE X a (tM c W fa)) (hb : PE X b (tM c W fb)) : PE X (.BinOp a .Sub b pos) (tM c W (mBin gSub fa fb)) := e_bin op_sub (gI0_ok fun _ _ _ => rfl) ha hb
theorem e_xor (ha : PE X a (tM c W fa)) (hb : PE X b (tM c W fb)) : PE X (.BinOp a .BitXor b pos) (tM c W (mBin gXor fa fb)) := e_bin op_xor (gI0_ok fun _ _ _ => rfl) ha hb
theorem e_band (ha : PE X a (tM c W fa)) (hb : PE X b (tM c W fb)) : PE X (.BinOp a .BitAnd b pos) (tM c W (mBin gAnd fa fb)) := e_bin op_and (gI0_ok fun _ _ _ => rfl) ha hb
theorem e_fdiv (ha : PE X a (tM c W fa)) (hb : PE X b (tM c W fb)) : PE X (.BinOp a .FloorDiv b pos) (tM c W (mBin gFdiv fa fb)) := e_bin (rI_or op_fdiv op_fdivW) (gI_ok fun _ _ _ => rfl) ha hb
theorem e_mod (ha : PE X a (tM c W fa)) (hb : PE X b (tM c W fb)) : PE X (.BinOp a .Mod b pos) (tM c W (mBin gMod fa fb)) := e_bin op_mod (gI_ok fun _ _ _ => rfl) ha hb
theorem e_pow (ha : PE X a (tM c W fa)) (hb : PE X b (tM c W fb)) : PE X (.BinOp a .Pow b pos) (tM c W (mBin gPow fa fb)) := e_bin op_pow (gI_ok fun _ _ _ => rfl) ha hb
theorem e_lt (ha : PE X a (tM c W fa)) (hb : PE X b (tM c W fb)) : PE X (.Compare a [.Lt] [b] pos) (tM c W (mBin gLt fa fb)) := e_cmp op_lt (gI0_ok fun _ _ _ => rfl) ha hb (nomark _)
theorem e_le (ha : PE X a (tM c W fa)) (hb : PE X b (tM c W fb)) : PE X (.Compare a [.LtE] [b] pos) (tM c W (mBin gLe fa fb)) := e_cmp op_le (gI0_ok fun _ _ _ => rfl) ha hb (nomark _)
theorem e_gt (ha : PE X a (tM c W fa)) (hb : PE X b (tM c W fb)) : PE X (.Compare a [.Gt] [b] pos) (tM c W (mBin gGt fa fb)) := e_cmp op_gt (gI0_ok fun _ _ _ => rfl) ha hb (nomark _)
theorem e_ge (ha : PE X a (tM c W fa)) (hb : PE X b (tM c W fb)) : PE X (.Compare a [.GtE] [b] pos) (tM c W (mBin gGe fa fb)) := e_cmp op_ge (gI0_ok fun _ _ _ => rfl) ha hb (nomark _)
theorem t_lt (ha : PE X a (tM c W fa)) (hb : PE X b (tM c W fb)) : PT X (.Compare a [.Lt] [b] pos) (tT c W (mTst (mBin gLt fa fb))) := t_cmp op_lt (gI0_ok fun _ _ _ => rfl) ha hb (nomark _)
theorem t_le (ha : PE X a (tM c W fa)) (hb : PE X b (tM c W fb)) : PT X (.Compare a [.LtE] [b] pos) (tT c W (mTst (mBin gLe fa fb))) := t_cmp op_le (gI0_ok fun _ _ _ => rfl) ha hb (nomark _)
theorem t_gt (ha : PE X a (tM c W fa)) (hb : PE X b (tM c W fb)) : PT X (.Compare a [.Gt] [b] pos) (tT c W (mTst (mBin gGt fa fb))) := t_cmp op_gt (gI0_ok fun _ _ _ => rfl) ha hb (nomark _)
theorem t_ge (ha : PE X a (tM c W fa)) (hb : PE X b (tM c W fb)) : PT X (.Compare a [.GtE] [b] pos) (tT c W (mTst (mBin gGe fa fb))) := t_cmp op_ge (gI0_ok fun _ _ _ => rfl) ha hb (nomark _)
end
/-! a < b < c -/
def mChain (g g' : A → A → Store → Res A) (fa fb fc : ME) : ME := fun σ st => (fa σ st).bind fun x st1 => (fb σ st1).bind fun y st2 => (g x y st2).bind fun z st3 => match z with
  | .d (.bl true) => (fc σ st3).bind fun u st4 => g' y u st4
  | .d (.bl false) => .ok (.d (.bl false)) st3
  | _ => .no
section
variable {X : Cx} {c : Ctx} {W : WX} {a b d e : Expr} {fa fb fc : ME} {pos : Pos}
theorem opA_bind {r : R2} {g : A → A → Store → Res A} (hg : OpA c r g) {w : Wd} {n : Nat} {σa : Slots} {st : Store} {σ : L2.St} {H : Hp} {x y : A} {v u : V} {Q Q' : VK} {k : A → Store → Res A} (rl : Rel c w σa st σ H) (rx : RA c w st.length v x) (ry : RA c w st.length u y)
    (p : Post c w st.length σa σ (RA c) W Q ((g x y st).bind k)) (f : ∀ z a st1 w1 H1, Ext w st.length w1 st1.length → Rel c w1 σa st1 σ H1 → RA c w1 st1.length z a → Post c w1 st1.length σa σ (RA c) W Q (k a st1) → Q' z H1) : r v u H Q' :=
  hg w σa st σ H x y v u W Q' rl rx ry (p.bind f)
theorem entail_chain {r r' : R2} {g g' : A → A → Store → Res A} (hg : OpA c r g) (hg' : OpA c r' g') (σ : L2.St) (H : Hp) (Q : VK) : tM c W (mChain g g' fa fb fc) σ H Q → tChain r r' (tM c W fa) (tM c W fb) (tM c W fc) σ H Q := fun ⟨w, σa, st, rl, p⟩ =>
  ⟨w, σa, st, rl, p.bind fun v x st1 w1 H1 _ rl1 rx p1 => ⟨w1, σa, st1, rl1, p1.bind fun u y st2 w2 H2 e2 rl2 ry p2 => opA_bind (n := 0) hg rl2 (rx.ext e2) ry p2 fun z a st3 w3 H3 e3 rl3 ra p3 => by
    split at p3
    · refine ⟨true, ra, iteT ⟨w3, σa, st3, rl3, p3.bind fun t b st4 w4 H4 e4 rl4 rb p4 => hg' w4 σa st4 σ H4 y b u t W Q rl4 ((ry.ext e3).ext e4) rb p4⟩⟩
    · exact ⟨false, ra, iteF (p3.here rl3 rfl)⟩
    · exact p3.elim⟩⟩
theorem e_chain {op op' : CmpOp} {r r' : R2} {g g' : A → A → Store → Res A} (ho : OpR X (compareOp op) r) (hg : OpA c r g) (ho' : OpR X (compareOp op') r') (hg' : OpA c r' g') (ha : PE X a (tM c W fa)) (hb : PE X b (tM c W fb)) (hd : PE X d (tM c W fc))
    (hm : lastMarks [op, op'] [b, d] = false := by with_unfolding_all rfl) : PE X (.Compare a [op, op'] [b, d] pos) (tM c W (mChain g g' fa fb fc)) := pe_imp (pe_chain ho ho' ha hb hd hm) (entail_chain hg hg')
theorem t_chain {op op' : CmpOp} {r r' : R2} {g g' : A → A → Store → Res A} (ho : OpR X (compareOp op) r) (hg : OpA c r g) (ho' : OpR X (compareOp op') r') (hg' : OpA c r' g') (ha : PE X a (tM c W fa)) (hb : PE X b (tM c W fb)) (hd : PE X d (tM c W fc))
    (hm : lastMarks [op, op'] [b, d] = false := by with_unfolding_all rfl) : PT X (.Compare a [op, op'] [b, d] pos) (tT c W (mTst (mChain g g' fa fb fc))) := pt_imp (pt_chain ho ho' ha hb hd hm) fun _ _ _ h => entail_chain hg hg' _ _ _ (entail_tst h)
theorem e_leLe (ha : PE X a (tM c W fa)) (hb : PE X b (tM c W fb)) (hd : PE X d (tM c W fc)) (hm : lastMarks [.LtE, .LtE] [b, d] = false := by with_unfolding_all rfl) : PE X (.Compare a [.LtE, .LtE] [b, d] pos) (tM c W (mChain gLe gLe fa fb fc)) := e_chain op_le (gI0_ok fun _ _ _ => rfl) op_le (gI0_ok fun _ _ _ => rfl) ha hb hd hm
theorem t_leLe (ha : PE X a (tM c W fa)) (hb : PE X b (tM c W fb)) (hd : PE X d (tM c W fc)) (hm : lastMarks [.LtE, .LtE] [b, d] = false := by with_unfolding_all rfl) : PT X (.Compare a [.LtE, .LtE] [b, d] pos) (tT c W (mTst (mChain gLe gLe fa fb fc))) := t_chain op_le (gI0_ok fun _ _ _ => rfl) op_le (gI0_ok fun _ _ _ => rfl) ha hb hd hm
theorem e_leLt (ha : PE X a (tM c W fa)) (hb : PE X b (tM c W fb)) (hd : PE X d (tM c W fc)) (hm : lastMarks [.LtE, .Lt] [b, d] = false := by with_unfolding_all rfl) : PE X (.Compare a [.LtE, .Lt] [b, d] pos) (tM c W (mChain gLe gLt fa fb fc)) := e_chain op_le (gI0_ok fun _ _ _ => rfl) op_lt (gI0_ok fun _ _ _ => rfl) ha hb hd hm
theorem t_leLt (ha : PE X a (tM c W fa)) (hb : PE X b (tM c W fb)) (hd : PE X d (tM c W fc)) (hm : lastMarks [.LtE, .Lt] [b, d] = false := by with_unfolding_all rfl) : PT X (.Compare a [.LtE, .Lt] [b, d] pos) (tT c W (mTst (mChain gLe gLt fa fb fc))) := t_chain op_le (gI0_ok fun _ _ _ => rfl) op_lt (gI0_ok fun _ _ _ => rfl) ha hb hd hm
end
/-! a + b -/
noncomputable def gAdd (k : Bool) : A → A → Store → Res A
  | .d (.int i), .d (.int j), st => .ok (.d (.int (i + j))) st
  | .d (.str a), .d (.str b), st => need (a.length + b.length ≤ SZ) (.ok (.d (.str (a ++ b))) st)
  | .d (.tup a), .d (.tup b), st => mkT ((a ++ b).map .d) st
  | x, y, st => match viewL st x, viewL st y with
    | some a, some b => mkL k (a ++ b) st
    | _, _ => .no
def rAddS : R2 := fun x y H Q => ∃ i j, x = .str i ∧ y = .str j ∧ i.length + j.length ≤ sizeLine ∧ Q (.str (i ++ j)) H
def rAddA (K : PySem.W.Frag) : R2 := fun x y H Q => rI0 (fun i j => .int (i + j)) x y H Q ∨ (rAddS x y H Q ∨ (rCatA K x y H Q ∨ rCat x y H Q))
section
variable {X : Cx} {c : Ctx} {W : WX} {a b e : Expr} {fa fb : ME} {pos : Pos}
theorem op_addA (F : Fits X c) : OpR X (binaryOp .Add) (rAddA c.K) := by
  rw [← F.K]
  exact op_add.or (OpR.or (show OpR X (binaryOp .Add) rAddS from op_add_str) (op_catA.or op_cat))
theorem mkT_data {w : Wd} {n : Nat} {σa : Slots} {st : Store} {σ : L2.St} {Q : VK} {ds : List D} (p : Post c w n σa σ (RA c) W Q (mkT (ds.map .d) st)) : ds.length ≤ SZ ∧ Post c w n σa σ (RA c) W Q (.ok (.d (.tup ds)) st) := by
  unfold mkT ifc at p
  split at p
  · rename_i h
    rw [List.length_map] at h
    rw [allD_map] at p
    exact ⟨h, p⟩
  · exact p.elim
theorem gAdd_ok (k : Bool) : OpA c (rAddA c.K) (gAdd k) := by
  intro w σa st σ H x y v u W Q rl rx ry p
  unfold gAdd at p
  split at p
  · exact .inl ⟨_, _, rx, ry, p.here rl rfl⟩
  · obtain ⟨hl, p⟩ := p.need
    exact .inr (.inl ⟨_, _, rx, ry, SZ_le hl, p.here rl rfl⟩)
  · rename_i a b
    obtain ⟨_, va, ea, qa, da⟩ := viewT_ok rl.rs rx rfl
    obtain ⟨_, vb, eb, qb, db⟩ := viewT_ok rl.rs ry rfl
    have pr : Paired (RA c w st.length) (va ++ vb) ((a ++ b).map A.d) := by rw [List.map_append]; exact paired_append (ras_d da) (ras_d db)
    obtain ⟨hl, hq⟩ := mkT_ok rl pr p
    obtain ⟨_, p2⟩ := mkT_data p
    refine .inr (.inr (.inl ⟨_, _, va, vb, ea, eb, qa, qb, by rw [← List.length_append]; exact hl, fun z => ?_, fun _ z => ?_, fun _ _ => hq⟩))
    · subst z
      have : a = [] := by cases a with | nil => rfl | cons _ _ => obtain ⟨_, _, e, _⟩ := da; cases e
      subst this
      rw [eb] at ry
      exact p2.here rl ry
    · subst z
      have : b = [] := by cases b with | nil => rfl | cons _ _ => obtain ⟨_, _, e, _⟩ := db; cases e
      subst this
      rw [ea] at rx
      exact p2.here rl (by rw [List.append_nil]; exact rx)
  · split at p
    · rename_i ha hb
      obtain ⟨_, va, ea, qa, da⟩ := viewL_ok rl.rs rx ha
      obtain ⟨_, vb, eb, qb, db⟩ := viewL_ok rl.rs ry hb
      obtain ⟨hl, hq⟩ := mkL_ok rl (paired_append da db) p
      exact .inr (.inr (.inr ⟨_, _, va, vb, ea, eb, qa, qb, by rw [← List.length_append]; exact hl, hq⟩))
    · exact p.elim
theorem e_add (k : Bool) (ha : PE X a (tM c W fa)) (hb : PE X b (tM c W fb)) (F : Fits X c := by exact ⟨rfl, rfl⟩) : PE X (.BinOp a .Add b pos) (tM c W (mBin (gAdd k) fa fb)) := e_bin (op_addA F) (gAdd_ok k) ha hb
end
/-! a * b -/
noncomputable def gMul (k : Bool) : A → A → Store → Res A
  | .d (.int i), .d (.int j), st => need (CMulA i j) (.ok (.d (.int (i * j))) st)
  | x, .d (.int j), st => match viewL st x with
    | some a => need (j < 2 ^ 63 ∧ -(2 ^ 63) ≤ j ∧ a.length * j.toNat ≤ SZ) (mkL k (List.replicate j.toNat a).flatten st)
    | _ => .no
  | _, _, _ => .no
def rMulA : R2 := fun x y H Q => rI CMulA (fun i j => .int (i * j)) x y H Q ∨ rRep x y H Q
theorem paired_rep {α β : Type} {F : α → β → Prop} {l₁ : List α} {l₂ : List β} (h : Paired F l₁ l₂) : ∀ n : Nat, Paired F (List.replicate n l₁).flatten (List.replicate n l₂).flatten
  | 0 => .nil
  | n + 1 => by
    rw [List.replicate_succ, List.replicate_succ, List.flatten_cons, List.flatten_cons]
    exact paired_append h (paired_rep h n)
section
variable {X : Cx} {c : Ctx} {W : WX} {a b e : Expr} {fa fb f : ME} {pos : Pos}
theorem gMul_ok (k : Bool) : OpA c rMulA (gMul k) := by
  intro w σa st σ H x y v u W Q rl rx ry p
  unfold gMul at p
  split at p
  · obtain ⟨hc, p⟩ := p.need
    exact .inl ⟨_, _, rx, ry, hc, p.here rl rfl⟩
  · split at p
    · rename_i ha
      obtain ⟨⟨h1, h2, h3⟩, p⟩ := p.need
      obtain ⟨_, va, ea, qa, da⟩ := viewL_ok rl.rs rx ha
      exact .inr ⟨_, _, va, ea, ry, qa, h2, h1, by rw [da.length]; exact SZ_le h3, (mkL_ok rl (paired_rep da _) p).2⟩
    · exact p.elim
  · exact p.elim
theorem e_mul (k : Bool) (ha : PE X a (tM c W fa)) (hb : PE X b (tM c W fb)) : PE X (.BinOp a .Mult b pos) (tM c W (mBin (gMul k) fa fb)) := e_bin (OpR.or (rI_or op_mul op_mulW) op_rep) (gMul_ok k) ha hb
/-! -a, not a -/
def gNeg : A → Store → Res A
  | .d (.int i), st => .ok (.d (.int (-i))) st
  | _, _ => .no
theorem e_neg (ha : PE X a (tM c W fa)) : PE X (.UnaryOp .USub a pos) (tM c W (mUn gNeg fa)) := e_un un_neg (fun w σa st σ H x v W Q rl rx p => by
  unfold gNeg at p
  split at p
  · exact ⟨_, rx, p.here rl rfl⟩
  · exact p.elim) ha
end
/-! truth -/
def truthD : D → Option Bool
  | .non => some false
  | .bl b => some b
  | .int i => some (i != 0)
  | .list xs => some (!xs.isEmpty)
  | .scr xs => some (!xs.isEmpty)
  | .tup xs => some (!xs.isEmpty)
  | .kt xs => some (!xs.isEmpty)
  | _ => none
def truthA (st : Store) : A → Option Bool
  | .d x => truthD x
  | .c i => match st[i]? with
    | some (.lst xs) => some (!xs.isEmpty)
    | some (.dK xs) => some (!xs.isEmpty)
    | some (.fz x) => truthD x
    | _ => none
def mTru (f : ME) : MT := fun σ st => (f σ st).bind fun a st1 => match truthA st1 a with
  | some b => .ok b st1
  | none => .no
def mNot (f : MT) : MT := fun σ st => (f σ st).bind fun b st1 => .ok (!b) st1
def mAnd (f g : MT) : MT := fun σ st => (f σ st).bind fun b st1 => if b then g σ st1 else .ok false st1
def mOr (f g : MT) : MT := fun σ st => (f σ st).bind fun b st1 => if b then .ok true st1 else g σ st1
def mIfE (t : MT) (f g : ME) : ME := fun σ st => (t σ st).bind fun b st1 => if b then f σ st1 else g σ st1
/-- as values -/
def mNotV (f : ME) : ME := fun σ st => (f σ st).bind fun a st1 => match truthA st1 a with
  | some b => .ok (.d (.bl (!b))) st1
  | none => .no
def mAndV (f g : ME) : ME := fun σ st => (f σ st).bind fun a st1 => match truthA st1 a with
  | some true => g σ st1
  | some false => .ok a st1
  | none => .no
def mOrV (f g : ME) : ME := fun σ st => (f σ st).bind fun a st1 => match truthA st1 a with
  | some true => .ok a st1
  | some false => g σ st1
  | none => .no
theorem paired_empty {α β : Type} {F : α → β → Prop} {l₁ : List α} {l₂ : List β} (h : Paired F l₁ l₂) : l₂.isEmpty = l₁.isEmpty := by cases h <;> rfl
section
variable {X : Cx} {c : Ctx} {W : WX} {a b e : Expr} {rest : List Expr} {fa fb f : ME} {ta tb : MT} {pos : Pos}
theorem truthD_ok {w : Wd} {H : Hp} (sm : Same w.G H) : ∀ {x : D} {v : V} {k : Bool}, DR c w.G x v → truthD x = some k → TruV c.K v H k := by
  intro x v k r h
  cases x with
  | non => cases h; cases r; exact rfl
  | bl b => cases h; cases r; exact rfl
  | int i => cases h; cases r; exact rfl
  | list xs => cases h; obtain ⟨a, vs, rfl, e, p⟩ := r; exact .inl ⟨vs, .of (sm _ _ e), by rw [paired_empty p.pair]⟩
  | scr xs => cases h; obtain ⟨a, vs, rfl, e, p⟩ := r; exact .inl ⟨vs, sm.seq e, by rw [paired_empty p.pair]⟩
  | tup xs => cases h; obtain ⟨a, vs, rfl, e, p⟩ := r; exact .inr (.inl ⟨vs, .of (sm _ _ e), by rw [paired_empty p.pair]⟩)
  | kt xs => cases h; obtain ⟨a, vs, rfl, e, p⟩ := r; exact .inr (.inl ⟨vs, same_t sm e, by rw [paired_empty p.pair]⟩)
  | _ => cases h
theorem truthA_ok {w : Wd} {st : Store} {H : Hp} (rl : RelS c w st H) : ∀ {x : A} {v : V} {k : Bool}, RA c w st.length v x → truthA st x = some k → TruV c.K v H k
  | .d x, v, k, r, h => truthD_ok rl.same r h
  | .c i, v, k, ⟨_, e⟩, h => by
    have h : (match st[i]? with | some (.lst xs) => some (!xs.isEmpty) | some (.dK xs) => some (!xs.isEmpty) | some (.fz x) => truthD x | _ => none) = some k := h
    split at h
    · rename_i q
      cases h
      obtain ⟨_, vs, e2, p⟩ := rl.cell _ _ q
      rw [e]
      exact .inl ⟨vs, .of e2, by rw [paired_empty p]⟩
    · rename_i q
      cases h
      obtain ⟨_, vs, e2, p⟩ := rl.cell _ _ q
      rw [e]
      exact .inr (.inr ⟨vs, e2, by rw [paired_empty p]⟩)
    · rename_i q
      rw [e]
      exact truthD_ok rl.same (rl.cell _ _ q).1 h
    · cases h
theorem t_tru (ha : PE X a (tM c W f)) (he : ∀ whole, isTrue a X.env whole = (do let v ← whole; standAt a.pos; holding [v] (truthy v)) := by intro _; rfl) (F : Fits X c := by exact ⟨rfl, rfl⟩) : PT X a (tT c W (mTru f)) :=
  pt_imp (pt_truth ha he) fun σ H Q ⟨w, σa, st, rl, p⟩ => ⟨w, σa, st, rl, p.bind fun v x st1 w1 H1 _ rl1 rx p1 => by
    split at p1
    · rename_i k hk
      rw [F.K]
      exact ⟨k, truthA_ok rl1.rs rx hk, p1.here rl1 rfl⟩
    · exact p1.elim⟩
theorem t_not (ha : PT X a (tT c W ta)) : PT X (.UnaryOp .Not a pos) (tT c W (mNot ta)) := pt_imp (pt_not ha) fun σ H Q ⟨w, σa, st, rl, p⟩ => ⟨w, σa, st, rl, p.bind fun v x st1 w1 H1 _ rl1 rx p1 => by
  subst rx
  exact p1.here rl1 rfl⟩
theorem w_and1 (ha : PT X a (tT c W ta)) : PW X (.BoolOp .And [a] pos) (tT c W ta) := pw_and1 ha
theorem w_or1 (ha : PT X a (tT c W ta)) : PW X (.BoolOp .Or [a] pos) (tT c W ta) := pw_or1 ha
theorem w_and (ha : PT X a (tT c W ta)) (hb : PW X (.BoolOp .And (b :: rest) pos) (tT c W tb)) : PW X (.BoolOp .And (a :: b :: rest) pos) (tT c W (mAnd ta tb)) := pw_imp (pw_and ha hb) fun σ H Q ⟨w, σa, st, rl, p⟩ =>
  ⟨w, σa, st, rl, p.bind fun v x st1 w1 H1 _ rl1 rx p1 => by
    subst rx
    cases v with
    | true => exact iteT ⟨w1, σa, st1, rl1, p1⟩
    | false => exact iteF (p1.here rl1 rfl)⟩
theorem w_or (ha : PT X a (tT c W ta)) (hb : PW X (.BoolOp .Or (b :: rest) pos) (tT c W tb)) : PW X (.BoolOp .Or (a :: b :: rest) pos) (tT c W (mOr ta tb)) := pw_imp (pw_or ha hb) fun σ H Q ⟨w, σa, st, rl, p⟩ =>
  ⟨w, σa, st, rl, p.bind fun v x st1 w1 H1 _ rl1 rx p1 => by
    subst rx
    cases v with
    | true => exact iteT (p1.here rl1 rfl)
    | false => exact iteF ⟨w1, σa, st1, rl1, p1⟩⟩
theorem t_bool (h : PW X e (tT c W ta)) : PT X e (tT c W ta) := h.pt
theorem e_if (ht : PT X e (tT c W ta)) (ha : PE X a (tM c W fa)) (hb : PE X b (tM c W fb)) : PE X (.IfExp e a b pos) (tM c W (mIfE ta fa fb)) := pe_imp (pe_ifExp ht ha hb) fun σ H Q ⟨w, σa, st, rl, p⟩ =>
  ⟨w, σa, st, rl, p.bind fun v x st1 w1 H1 _ rl1 rx p1 => by
    subst rx
    cases v with
    | true => exact iteT ⟨w1, σa, st1, rl1, p1⟩
    | false => exact iteF ⟨w1, σa, st1, rl1, p1⟩⟩
theorem e_not (ha : PE X a (tM c W f)) (F : Fits X c := by exact ⟨rfl, rfl⟩) : PE X (.UnaryOp .Not a pos) (tM c W (mNotV f)) := pe_imp (pe_notT ha) fun σ H Q ⟨w, σa, st, rl, p⟩ => ⟨w, σa, st, rl, p.bind fun v x st1 w1 H1 _ rl1 rx p1 => by
  split at p1
  · rename_i k hk
    rw [F.K]
    exact ⟨k, truthA_ok rl1.rs rx hk, p1.here rl1 rfl⟩
  · exact p1.elim⟩
theorem e_one {op} (ha : PE X a (tM c W f)) : PE X (.BoolOp op [a] pos) (tM c W f) := pe_one ha
theorem e_and (ha : PE X a (tM c W fa)) (hb : PE X (.BoolOp .And (b :: rest) pos) (tM c W fb)) (F : Fits X c := by exact ⟨rfl, rfl⟩) : PE X (.BoolOp .And (a :: b :: rest) pos) (tM c W (mAndV fa fb)) := pe_imp (pe_andT ha hb) fun σ H Q ⟨w, σa, st, rl, p⟩ =>
  ⟨w, σa, st, rl, p.bind fun v x st1 w1 H1 _ rl1 rx p1 => by
    rw [F.K]
    split at p1
    · rename_i hk
      exact ⟨true, truthA_ok rl1.rs rx hk, iteT ⟨w1, σa, st1, rl1, p1⟩⟩
    · rename_i hk
      exact ⟨false, truthA_ok rl1.rs rx hk, iteF (p1.here rl1 rx)⟩
    · exact p1.elim⟩
theorem e_or (ha : PE X a (tM c W fa)) (hb : PE X (.BoolOp .Or (b :: rest) pos) (tM c W fb)) (F : Fits X c := by exact ⟨rfl, rfl⟩) : PE X (.BoolOp .Or (a :: b :: rest) pos) (tM c W (mOrV fa fb)) := pe_imp (pe_orT ha hb) fun σ H Q ⟨w, σa, st, rl, p⟩ =>
  ⟨w, σa, st, rl, p.bind fun v x st1 w1 H1 _ rl1 rx p1 => by
    rw [F.K]
    split at p1
    · rename_i hk
      exact ⟨true, truthA_ok rl1.rs rx hk, iteT (p1.here rl1 rx)⟩
    · rename_i hk
      exact ⟨false, truthA_ok rl1.rs rx hk, iteF ⟨w1, σa, st1, rl1, p1⟩⟩
    · exact p1.elim⟩
end
/-! is None, is of bools -/
def gIs (neg : Bool) : A → A → Store → Res A
  | .d .non, .d .non, st => .ok (.d (.bl (!neg))) st
  | _, .d .non, st => .ok (.d (.bl neg)) st
  | .d (.bl a), .d (.bl b), st => .ok (.d (.bl (if neg then !decide (a = b) else decide (a = b)))) st
  | _, _, _ => .no
def rIsA (neg : Bool) : R2 := fun x y H Q => (y = .non ∧ Q (.bl (if neg then !decide (x = .non) else decide (x = .non))) H) ∨ (∃ a b : Bool, x = .bl a ∧ y = .bl b ∧ Q (.bl (if neg then !decide (a = b) else decide (a = b))) H)
section
variable {X : Cx} {c : Ctx} {W : WX} {a b e : Expr} {fa fb f : ME} {pos : Pos}
theorem RA.ne_non {w : Wd} {n : Nat} {x : A} {v : V} (r : RA c w n v x) (h : x ≠ .d .non) : v ≠ .non := fun z => by
  subst z
  cases x with
  | c i => cases r.2
  | d x =>
    cases x with
    | non => exact h rfl
    | list _ => obtain ⟨_, _, e, _⟩ := r; cases e
    | scr _ => obtain ⟨_, _, e, _⟩ := r; cases e
    | tup _ => obtain ⟨_, _, e, _⟩ := r; cases e
    | kt _ => obtain ⟨_, _, e, _⟩ := r; cases e
    | dK _ => obtain ⟨_, _, e, _⟩ := r; cases e
    | dT _ => obtain ⟨_, _, e, _⟩ := r; cases e
    | ins _ _ => obtain ⟨_, _, _, _, e, _⟩ := r; cases e
    | fn _ => obtain ⟨_, _, e⟩ := r; cases e
    | _ => cases r
theorem gIs_ok (neg : Bool) : OpA c (rIsA neg) (gIs neg) := by
  intro w σa st σ H x y v u W Q rl rx ry p
  unfold gIs at p
  split at p
  · refine .inl ⟨ry, p.here rl ?_⟩
    cases (show v = .non from rx)
    show _ = _
    cases neg <;> rfl
  · rename_i h
    refine .inl ⟨ry, p.here rl ?_⟩
    have hv := RA.ne_non rx fun z => h z
    rw [decide_eq_false hv]
    show _ = _
    cases neg <;> rfl
  · exact .inr ⟨_, _, rx, ry, p.here rl rfl⟩
  · exact p.elim
theorem op_isA : OpR X (compareOp .Is) (rIsA false) := OpR.or (show OpR X (compareOp .Is) (fun x y H Q => y = .non ∧ Q (.bl (decide (x = .non))) H) from op_isN) (show OpR X (compareOp .Is) rIsB from op_isBl)
theorem op_notA : OpR X (compareOp .IsNot) (rIsA true) := OpR.or (show OpR X (compareOp .IsNot) (fun x y H Q => y = .non ∧ Q (.bl (!decide (x = .non))) H) from op_notN) (show OpR X (compareOp .IsNot) rNotB from op_notBl)
theorem e_is (ha : PE X a (tM c W fa)) (hb : PE X b (tM c W fb)) : PE X (.Compare a [.Is] [b] pos) (tM c W (mBin (gIs false) fa fb)) := e_cmp op_isA (gIs_ok _) ha hb (nomark _)
theorem t_is (ha : PE X a (tM c W fa)) (hb : PE X b (tM c W fb)) : PT X (.Compare a [.Is] [b] pos) (tT c W (mTst (mBin (gIs false) fa fb))) := t_cmp op_isA (gIs_ok _) ha hb (nomark _)
theorem e_isnot (ha : PE X a (tM c W fa)) (hb : PE X b (tM c W fb)) : PE X (.Compare a [.IsNot] [b] pos) (tM c W (mBin (gIs true) fa fb)) := e_cmp op_notA (gIs_ok _) ha hb (nomark _)
theorem t_isnot (ha : PE X a (tM c W fa)) (hb : PE X b (tM c W fb)) : PT X (.Compare a [.IsNot] [b] pos) (tT c W (mTst (mBin (gIs true) fa fb))) := t_cmp op_notA (gIs_ok _) ha hb (nomark _)
end
end Am
/-! ### Am: equality, built-in calls, subscripts, slices, methods of lists -/
namespace Am
open PySem PySem.Spec PyProof.Rows L2
/-! == -/
mutual
def D.py : D → Option PyData
  | .non => some .none
  | .bl b => some (.bool b)
  | .int i => some (.int i)
  | .str x => some (.str x)
  | .list ds => (D.pys ds).map .list
  | .scr ds => (D.pys ds).map .list
  | .tup ds => (D.pys ds).map .tuple
  | .kt ds => (D.pys ds).map .tuple
  | _ => none
def D.pys : List D → Option (List PyData)
  | [] => some []
  | d :: ds => match D.py d, D.pys ds with
    | some x, some xs => some (x :: xs)
    | _, _ => none
end
/-- the data of a value -/
def peek (st : Store) : A → Option D
  | .d x => some x
  | .c i => match st[i]? with
    | some (.lst xs) => (allD xs).map .list
    | some (.dK kvs) => none
    | some (.fz x) => some x
    | _ => none
section
variable {c : Ctx} {G H : Hp}
mutual
theorem DR.dp (sm : Same G H) : ∀ {d : D} {v : V} {p : PyData}, DR c G d v → d.py = some p → Dp c.K H v p
  | .non, _, _, h, e => by cases e; cases h; exact .non
  | .bl _, _, _, h, e => by cases e; cases h; exact .bl _
  | .int _, _, _, h, e => by cases e; cases h; exact .int _
  | .str _, _, _, h, e => by cases e; cases h; exact .str _
  | .list _, _, _, ⟨a, vs, h1, h2, h3⟩, e => by
    obtain ⟨ps, e1, rfl⟩ := Option.map_eq_some_iff.mp e
    subst h1
    exact .lst (.of (sm _ _ h2)) (DRs.dp sm h3 e1)
  | .scr _, _, _, ⟨a, vs, h1, h2, h3⟩, e => by
    obtain ⟨ps, e1, rfl⟩ := Option.map_eq_some_iff.mp e
    subst h1
    exact .lst (sm.seq h2) (DRs.dp sm h3 e1)
  | .tup _, _, _, ⟨a, vs, h1, h2, h3⟩, e => by
    obtain ⟨ps, e1, rfl⟩ := Option.map_eq_some_iff.mp e
    subst h1
    exact .tup (.of (sm _ _ h2)) (DRs.dp sm h3 e1)
  | .kt _, _, _, ⟨a, vs, h1, h2, h3⟩, e => by
    obtain ⟨ps, e1, rfl⟩ := Option.map_eq_some_iff.mp e
    subst h1
    exact .tup (same_t sm h2) (DRs.dp sm h3 e1)
  | .dK _, _, _, _, e => nomatch e
  | .dT _, _, _, _, e => nomatch e
  | .ins _ _, _, _, _, e => nomatch e
  | .fn _, _, _, _, e => nomatch e
theorem DRs.dp (sm : Same G H) : ∀ {ds : List D} {vs : List V} {ps : List PyData}, DRs c G ds vs → D.pys ds = some ps → DpAll c.K H vs ps
  | [], _, _, h, e => by cases e; cases h; exact .nil
  | d :: ds, _, _, ⟨v, r, h1, h2, h3⟩, e => by
    unfold D.pys at e
    split at e
    · rename_i x xs e1 e2
      cases e
      subst h1
      exact .cons (DR.dp sm h2 e1) (DRs.dp sm h3 e2)
    · cases e
end
theorem peek_dp {w : Wd} {st : Store} (rl : RelS c w st H) : ∀ {x : A} {v : V} {d : D} {p : PyData}, RA c w st.length v x → peek st x = some d → d.py = some p → Dp c.K H v p
  | .d x, v, d, p, r, h, e => by cases h; exact DR.dp rl.same r e
  | .c i, v, d, p, ⟨_, ev⟩, h, e => by
    have h : (match st[i]? with | some (.lst xs) => (allD xs).map D.list | some (.dK _) => none | some (.fz x) => some x | _ => none) = some d := h
    split at h
    · rename_i q
      obtain ⟨ds, hd, rfl⟩ := Option.map_eq_some_iff.mp h
      obtain ⟨_, vs, e2, pr⟩ := rl.cell _ _ q
      rw [allD_eq hd] at pr
      obtain ⟨ps, e1, rfl⟩ := Option.map_eq_some_iff.mp e
      rw [ev]
      exact .lst (.of e2) (DRs.dp rl.same (ras_of_d pr) e1)
    · cases h
    · rename_i q
      cases h
      rw [ev]
      exact DR.dp rl.same (rl.cell _ _ q).1 e
    · cases h
end
noncomputable def gEq (neg : Bool) : A → A → Store → Res A := fun x y st => match (peek st x).bind D.py, (peek st y).bind D.py with
  | some a, some b => need (SeqAt.shaped a = true ∧ SeqAt.shaped b = true) (.ok (.d (.bl (if neg then !PyData.eqv a b else PyData.eqv a b))) st)
  | _, _ => .no
def rEqN (K : PySem.W.Frag) (neg : Bool) : R2 := fun x y H Q => ∃ d e, Dp K H x d ∧ Dp K H y e ∧ SeqAt.shaped d = true ∧ SeqAt.shaped e = true ∧ Q (.bl (if neg then !PyData.eqv d e else PyData.eqv d e)) H
section
variable {X : Cx} {c : Ctx} {W : WX} {a b e : Expr} {fa fb f : ME} {pos : Pos} {k : Nat}
theorem gEq_ok (neg : Bool) : OpA c (rEqN c.K neg) (gEq neg) := by
  intro w σa st σ H x y v u W Q rl rx ry p
  unfold gEq at p
  split at p
  · rename_i a b ha hb
    obtain ⟨⟨h1, h2⟩, p⟩ := p.need
    obtain ⟨da, e1, e2⟩ := Option.bind_eq_some_iff.mp ha
    obtain ⟨db, e3, e4⟩ := Option.bind_eq_some_iff.mp hb
    exact ⟨_, _, peek_dp rl.rs rx e1 e2, peek_dp rl.rs ry e3 e4, h1, h2, p.here rl rfl⟩
  · exact p.elim
theorem op_eqA (hr : Room k X.A) (F : Fits X c) : OpR X (compareOp .Eq) (rEqN c.K false) := by rw [← F.K]; exact op_eqD hr.units
theorem op_neA (hr : Room k X.A) (F : Fits X c) : OpR X (compareOp .NotEq) (rEqN c.K true) := by rw [← F.K]; exact op_neD hr.units
theorem e_eq (hr : Room k X.A) (ha : PE X a (tM c W fa)) (hb : PE X b (tM c W fb)) (F : Fits X c := by exact ⟨rfl, rfl⟩) : PE X (.Compare a [.Eq] [b] pos) (tM c W (mBin (gEq false) fa fb)) := e_cmp (op_eqA hr F) (gEq_ok _) ha hb (nomark _)
theorem t_eq (hr : Room k X.A) (ha : PE X a (tM c W fa)) (hb : PE X b (tM c W fb)) (F : Fits X c := by exact ⟨rfl, rfl⟩) : PT X (.Compare a [.Eq] [b] pos) (tT c W (mTst (mBin (gEq false) fa fb))) := t_cmp (op_eqA hr F) (gEq_ok _) ha hb (nomark _)
theorem e_ne (hr : Room k X.A) (ha : PE X a (tM c W fa)) (hb : PE X b (tM c W fb)) (F : Fits X c := by exact ⟨rfl, rfl⟩) : PE X (.Compare a [.NotEq] [b] pos) (tM c W (mBin (gEq true) fa fb)) := e_cmp (op_neA hr F) (gEq_ok _) ha hb (nomark _)
theorem t_ne (hr : Room k X.A) (ha : PE X a (tM c W fa)) (hb : PE X b (tM c W fb)) (F : Fits X c := by exact ⟨rfl, rfl⟩) : PT X (.Compare a [.NotEq] [b] pos) (tT c W (mTst (mBin (gEq true) fa fb))) := t_cmp (op_neA hr F) (gEq_ok _) ha hb (nomark _)
end

/-! ### calls of built-ins -/
abbrev GC := List A → Store → Res A
def CallA (c : Ctx) (r : List V → Hp → VK → Prop) (g : GC) : Prop := ∀ (w : Wd) (σa : Slots) (st : Store) (σ : L2.St) (H : Hp) (xs : List A) (vs : List V) (W : WX) (Q : VK),
  Rel c w σa st σ H → Paired (RA c w st.length) vs xs → Post c w st.length σa σ (RA c) W Q (g xs st) → r vs H Q
theorem CallR.or {X : Cx} {f : Value} {r r' : List V → Hp → VK → Prop} (h : CallR X f r) (h' : CallR X f r') : CallR X f (fun xs H Q => r xs H Q ∨ r' xs H Q) := by
  intro pins s σ H xs us Q I rx q
  rcases q with q | q
  · exact h pins s σ H xs us Q I rx q
  · exact h' pins s σ H xs us Q I rx q
def mCallB (g : GC) (fs : MA) : ME := fun σ st => (fs σ st).bind fun xs st1 => g xs st1
noncomputable def gLen : GC
  | [x], st => match viewS st x with
    | some xs => .ok (.d (.int xs.length)) st
    | none => match x with
      | .d (.tup ds) => .ok (.d (.int ds.length)) st
      | .d (.kt ds) => .ok (.d (.int ds.length)) st
      | .d (.str z) => ifc (z.length ≤ SZ) (.ok (.d (.int z.length)) st) .no
      | .d (.dK ds) => .ok (.d (.int ds.length)) st
      | .d (.dT ds) => .ok (.d (.int ds.length)) st
      | .c i => match st[i]? with
        | some (.dK ds) => .ok (.d (.int ds.length)) st
        | some (.dT ds) => .ok (.d (.int ds.length)) st
        | some (.fz (.dK ds)) => .ok (.d (.int ds.length)) st
        | some (.fz (.dT ds)) => .ok (.d (.int ds.length)) st
        | _ => .no
      | _ => .no
  | _, _ => .no
def gInt : GC
  | [.d (.int i)], st => .ok (.d (.int i)) st
  | [.d (.bl b)], st => .ok (.d (.int (if b then 1 else 0))) st
  | _, _ => .no
def gMax : GC
  | [.d (.int i), .d (.int j)], st => .ok (.d (.int (if j > i then j else i))) st
  | _, _ => .no
def gMin : GC
  | [.d (.int i), .d (.int j)], st => .ok (.d (.int (if j < i then j else i))) st
  | _, _ => .no
def gOrd : GC
  | [.d (.str x)], st => if x.length = 1 then .ok (.d (.int (x.cps.getD 0 0 : Nat))) st else .no
  | _, _ => .no
noncomputable def gListOf (k : Bool) : GC
  | [x], st => match viewS st x with
    | some xs => mkL k xs st
    | none => match viewT x with
      | some ds => mkL k (ds.map .d) st
      | none => .no
  | _, _ => .no
noncomputable def gTupOf : GC
  | [x], st => match viewT x with
    | some _ => .ok x st
    | none => match viewS st x with
      | some xs => mkT xs st
      | none => .no
  | _, _ => .no
def rLenK2 : List V → Hp → VK → Prop := fun xs H Q => ∃ a kvs, xs = [V.ref a] ∧ Rd H a (.dK kvs) ∧ Q (.int ((kvs.length : Nat) : Int)) H
def rLenT2 : List V → Hp → VK → Prop := fun xs H Q => ∃ (p : Addr) (kvs : List (List Key × V)), xs = [V.ref p] ∧ Rd H p (.dT kvs) ∧ Q (.int ((kvs.length : Nat) : Int)) H
theorem call_lenK2 {X : Cx} : CallR X (.builtin "len") rLenK2 := by
  intro pins s σ H xs us Q I r h
  obtain ⟨a, kvs, rfl, ha, q⟩ := h
  obtain ⟨u, rfl, ru⟩ := vals1 r
  cases ru
  exact d_len I ha fun t s' I' => ⟨.int kvs.length, H, I', ⟨t, rfl⟩, q⟩
theorem call_lenT2 {X : Cx} : CallR X (.builtin "len") rLenT2 := by
  intro pins s σ H xs us Q I r h
  obtain ⟨p, kvs, rfl, hp, q⟩ := h
  obtain ⟨u, rfl, rx⟩ := vals1 r
  obtain rfl : u = .ref p := rx
  obtain ⟨z, hd, ys, rel, dd⟩ := dt_rd I.hok hp
  have hl : kvs.length = ys.length := Paired.length rel
  refine call_len_dictH hd dd (by rw [← hl]; rw [sizeLine_eq] at z; omega) ?_
  rw [← hl]
  exact ⟨.int ((kvs.length : Nat) : Int), H, I.tok _, ⟨_, rfl⟩, q⟩
def rLenA2 (K : PySem.W.Frag) : List V → Hp → VK → Prop := fun xs H Q => (∃ x n, xs = [x] ∧ LenV K x H n ∧ Q (.int n) H) ∨ (rLenK2 xs H Q ∨ rLenT2 xs H Q)
section
variable {X : Cx} {c : Ctx} {W : WX} {a b e : Expr} {es : List Expr} {fa fb f : ME} {fs : MA} {p pos : Pos}
theorem pr1 {α β : Type} {F : α → β → Prop} {vs : List α} {b : β} (h : Paired F vs [b]) : ∃ a, vs = [a] ∧ F a b := by
  cases h with
  | cons r t => cases t; exact ⟨_, rfl, r⟩
theorem pr2 {α β : Type} {F : α → β → Prop} {vs : List α} {b b' : β} (h : Paired F vs [b, b']) : ∃ a a', vs = [a, a'] ∧ F a b ∧ F a' b' := by
  cases h with
  | cons r t => obtain ⟨a', rfl, r'⟩ := pr1 t; exact ⟨_, _, rfl, r, r'⟩
theorem pr3 {α β : Type} {F : α → β → Prop} {vs : List α} {b b' b2 : β} (h : Paired F vs [b, b', b2]) : ∃ a a' a2, vs = [a, a', a2] ∧ F a b ∧ F a' b' ∧ F a2 b2 := by
  cases h with
  | cons r t => obtain ⟨a', a2, rfl, r', r2⟩ := pr2 t; exact ⟨_, _, _, rfl, r, r', r2⟩
theorem entail_cb {r : List V → Hp → VK → Prop} {g : GC} (hg : CallA c r g) (σ : L2.St) (H : Hp) (Q : VK) : tM c W (mCallB g fs) σ H Q → tCB r (tMA c W fs) σ H Q := fun ⟨w, σa, st, rl, p⟩ =>
  ⟨w, σa, st, rl, p.bind fun vs xs st1 w1 H1 _ rl1 rx p1 => hg w1 σa st1 σ H1 xs vs W Q rl1 rx p1⟩
theorem e_callB {id : String} {x : Str} {r : List V → Hp → VK → Prop} {g : GC} (hc : CallR X (.builtin id) r) (hg : CallA c r g) (hgl : Gl X x) (hm : c.mg x = none) (hv : bootBuiltins x = some (.builtin id)) (ha : PA X (e :: es) (tMA c W fs)) (F : Fits X c) (hn : x ≠ "__name__" := by decide) (hdb : (x == ("__debug__" : Str)) = false := by decide)
    (he : starEach (e :: es) X.env = (false, eval e X.env) :: starEach es X.env := by rfl) (hpl : (backTo pos (starEach es X.env)).any (·.1) = false := by rfl) : PE X (.Call (.Name x p) (e :: es) [] pos) (tM c W (mCallB g fs)) :=
  pe_imp (pe_callB hc hgl (by rw [F.mg]; exact hm) hv ha hn hdb he hpl) (entail_cb hg)
theorem e_callTy {T : String} {x : Str} {r : List V → Hp → VK → Prop} {g : GC} (hc : CallR X (.type T) r) (hg : CallA c r g) (hgl : Gl X x) (hm : c.mg x = none) (hv : bootBuiltins x = some (.type T)) (ha : PA X (e :: es) (tMA c W fs)) (F : Fits X c) (hn : x ≠ "__name__" := by decide) (hdb : (x == ("__debug__" : Str)) = false := by decide)
    (he : starEach (e :: es) X.env = (false, eval e X.env) :: starEach es X.env := by rfl) (hpl : (backTo pos (starEach es X.env)).any (·.1) = false := by rfl) : PE X (.Call (.Name x p) (e :: es) [] pos) (tM c W (mCallB g fs)) :=
  pe_imp (pe_callTy hc hgl (by rw [F.mg]; exact hm) hv ha hn hdb he hpl) (entail_cb hg)
theorem dr_len {G H : Hp} (sm : Same G H) {ds : List (Key × D)} {v : V} (r : DR c G (.dK ds) v) : ∃ a us, v = .ref a ∧ Rd H a (.dK us) ∧ us.length = ds.length := by
  obtain ⟨a, us, rfl, e, p⟩ := r
  exact ⟨a, us, rfl, same_rd sm e, p.pair.length⟩
theorem dr_lenT {G H : Hp} (sm : Same G H) {ds : List (List Key × D)} {v : V} (r : DR c G (.dT ds) v) : ∃ a us, v = .ref a ∧ Rd H a (.dT us) ∧ us.length = ds.length := by
  obtain ⟨a, us, rfl, e, p⟩ := r
  exact ⟨a, us, rfl, same_rd sm e, p.pair.length⟩
theorem gLen_ok : CallA c (rLenA2 c.K) gLen := by
  intro w σa st σ H xs vs W Q rl rxs p
  unfold gLen at p
  simp only [ifc] at p
  split at p
  · obtain ⟨v, rfl, rx⟩ := pr1 rxs
    split at p
    · rename_i hv
      obtain ⟨_, us, rfl, q, pr⟩ := viewS_ok rl.rs rx hv
      exact .inl ⟨_, us.length, rfl, .inl ⟨us, q, rfl⟩, by rw [pr.length]; exact p.here rl rfl⟩
    · split at p
      · obtain ⟨_, us, rfl, q, pr⟩ := rx
        exact .inl ⟨_, us.length, rfl, .inr ⟨us, .of (rl.rs.same _ _ q), rfl⟩, by rw [pr.pair.length]; exact p.here rl rfl⟩
      · obtain ⟨_, us, rfl, q, pr⟩ := rx
        exact .inl ⟨_, us.length, rfl, .inr ⟨us, same_t rl.rs.same q, rfl⟩, by rw [pr.pair.length]; exact p.here rl rfl⟩
      · split at p
        · rename_i hl
          cases rx
          exact .inl ⟨_, _, rfl, ⟨SZ_le hl, rfl⟩, p.here rl rfl⟩
        · exact p.elim
      · obtain ⟨_, us, rfl, q, hl⟩ := dr_len rl.rs.same rx
        exact .inr (.inl ⟨_, us, rfl, q, by rw [hl]; exact p.here rl rfl⟩)
      · obtain ⟨_, us, rfl, q, hl⟩ := dr_lenT rl.rs.same rx
        exact .inr (.inr ⟨_, us, rfl, q, by rw [hl]; exact p.here rl rfl⟩)
      · split at p
        · rename_i hq
          obtain ⟨_, us, q, pr⟩ := rl.rs.cell _ _ hq
          rw [rx.2]
          exact .inr (.inl ⟨_, us, rfl, .inl q, by rw [pr.length]; exact p.here rl rfl⟩)
        · rename_i hq
          obtain ⟨_, us, q, pr⟩ := rl.rs.cell _ _ hq
          rw [rx.2]
          exact .inr (.inr ⟨_, us, rfl, .inl q, by rw [pr.length]; exact p.here rl rfl⟩)
        · rename_i hq
          obtain ⟨_, us, e, q, hl⟩ := dr_len rl.rs.same (rl.rs.cell _ _ hq).1
          rw [rx.2, e]
          exact .inr (.inl ⟨_, us, rfl, q, by rw [hl]; exact p.here rl rfl⟩)
        · rename_i hq
          obtain ⟨_, us, e, q, hl⟩ := dr_lenT rl.rs.same (rl.rs.cell _ _ hq).1
          rw [rx.2, e]
          exact .inr (.inr ⟨_, us, rfl, q, by rw [hl]; exact p.here rl rfl⟩)
        · exact p.elim
      · exact p.elim
  · exact p.elim
theorem gInt_ok : CallA c (fun xs H Q => (∃ i, xs = [.int i] ∧ Q (.int i) H) ∨ ∃ k, xs = [.bl k] ∧ Q (.int (if k then 1 else 0)) H) gInt := by
  intro w σa st σ H xs vs W Q rl rxs p
  unfold gInt at p
  split at p
  · obtain ⟨v, rfl, rx⟩ := pr1 rxs
    cases rx
    exact .inl ⟨_, rfl, p.here rl rfl⟩
  · obtain ⟨v, rfl, rx⟩ := pr1 rxs
    cases rx
    exact .inr ⟨_, rfl, p.here rl rfl⟩
  · exact p.elim
theorem gMax_ok : CallA c (fun xs H Q => ∃ i j, xs = [.int i, .int j] ∧ Q (.int (if j > i then j else i)) H) gMax := by
  intro w σa st σ H xs vs W Q rl rxs p
  unfold gMax at p
  split at p
  · obtain ⟨v, u, rfl, rx, ry⟩ := pr2 rxs
    cases rx
    cases ry
    exact ⟨_, _, rfl, p.here rl rfl⟩
  · exact p.elim
theorem gMin_ok : CallA c (fun xs H Q => ∃ i j, xs = [.int i, .int j] ∧ Q (.int (if j < i then j else i)) H) gMin := by
  intro w σa st σ H xs vs W Q rl rxs p
  unfold gMin at p
  split at p
  · obtain ⟨v, u, rfl, rx, ry⟩ := pr2 rxs
    cases rx
    cases ry
    exact ⟨_, _, rfl, p.here rl rfl⟩
  · exact p.elim
theorem gOrd_ok : CallA c (fun xs H Q => ∃ x, xs = [.str x] ∧ x.length = 1 ∧ Q (.int (x.cps.getD 0 0 : Nat)) H) gOrd := by
  intro w σa st σ H xs vs W Q rl rxs p
  unfold gOrd at p
  split at p
  · obtain ⟨v, rfl, rx⟩ := pr1 rxs
    cases rx
    split at p
    · rename_i h
      exact ⟨_, rfl, h, p.here rl rfl⟩
    · exact p.elim
  · exact p.elim
theorem gListOf_ok (k : Bool) : CallA c (fun xs H Q => ∃ p ys, xs = [.ref p] ∧ (SqL c.K H p ys ∨ SqT c.K H p ys) ∧ ∀ l, H l = none → Q (.ref l) (upd H l (.lst ys))) (gListOf k) := by
  intro w σa st σ H xs vs W Q rl rxs p
  unfold gListOf at p
  split at p
  · obtain ⟨v, rfl, rx⟩ := pr1 rxs
    split at p
    · rename_i hv
      obtain ⟨_, us, rfl, q, pr⟩ := viewS_ok rl.rs rx hv
      exact ⟨_, us, rfl, .inl q, (mkL_ok rl pr p).2⟩
    · split at p
      · rename_i hv
        obtain ⟨_, us, rfl, q, pr⟩ := viewT_ok rl.rs rx hv
        exact ⟨_, us, rfl, .inr q, (mkL_ok rl (ras_d pr) p).2⟩
      · exact p.elim
  · exact p.elim
theorem gTupOf_ok : CallA c (fun xs H Q => ∃ p ys, xs = [.ref p] ∧ ((SqL c.K H p ys ∧ ∀ l, H l = none → Q (.ref l) (upd H l (.tup ys))) ∨ (SqT c.K H p ys ∧ Q (.ref p) H))) gTupOf := by
  intro w σa st σ H xs vs W Q rl rxs p
  unfold gTupOf at p
  split at p
  · obtain ⟨v, rfl, rx⟩ := pr1 rxs
    split at p
    · rename_i x ds hv
      have rx0 := rx
      obtain ⟨a, us, rfl, q, pr⟩ := viewT_ok rl.rs rx hv
      exact ⟨_, us, rfl, .inr ⟨q, p.here rl rx0⟩⟩
    · split at p
      · rename_i hv
        obtain ⟨_, us, rfl, q, pr⟩ := viewS_ok rl.rs rx hv
        exact ⟨_, us, rfl, .inl ⟨q, (mkT_ok rl pr p).2⟩⟩
      · exact p.elim
  · exact p.elim
theorem e_len (ha : PA X (e :: []) (tMA c W fs)) (hm : c.mg "len" = none) (hgl : Gl X "len" := by rfl) (F : Fits X c := by exact ⟨rfl, rfl⟩) (he : starEach (e :: []) X.env = (false, eval e X.env) :: starEach [] X.env := by rfl) (hpl : (backTo pos (starEach [] X.env)).any (·.1) = false := by rfl) : PE X (.Call (.Name "len" p) [e] [] pos) (tM c W (mCallB gLen fs)) := by
  refine e_callB (r := rLenA2 c.K) ?_ gLen_ok hgl hm PySem.boot_len ha F (by decide) (by decide) he hpl
  rw [← F.K]
  exact CallR.or call_len (CallR.or call_lenK2 call_lenT2)
theorem e_intc (ha : PA X (e :: []) (tMA c W fs)) (hm : c.mg "int" = none) (hgl : Gl X "int" := by rfl) (F : Fits X c := by exact ⟨rfl, rfl⟩) (he : starEach (e :: []) X.env = (false, eval e X.env) :: starEach [] X.env := by rfl) (hpl : (backTo pos (starEach [] X.env)).any (·.1) = false := by rfl) : PE X (.Call (.Name "int" p) [e] [] pos) (tM c W (mCallB gInt fs)) :=
  e_callTy call_int1 gInt_ok hgl hm boot_int ha F (by decide) (by decide) he hpl
theorem e_max (hc : X.calm = true) (ha : PA X (a :: [b]) (tMA c W fs)) (hm : c.mg "max" = none) (hgl : Gl X "max" := by rfl) (F : Fits X c := by exact ⟨rfl, rfl⟩) (he : starEach (a :: [b]) X.env = (false, eval a X.env) :: starEach [b] X.env := by rfl) (hpl : (backTo pos (starEach [b] X.env)).any (·.1) = false := by rfl) : PE X (.Call (.Name "max" p) [a, b] [] pos) (tM c W (mCallB gMax fs)) :=
  e_callB (call_max2 hc) gMax_ok hgl hm (by decide +kernel) ha F (by decide) (by decide) he hpl
theorem e_min (hc : X.calm = true) (ha : PA X (a :: [b]) (tMA c W fs)) (hm : c.mg "min" = none) (hgl : Gl X "min" := by rfl) (F : Fits X c := by exact ⟨rfl, rfl⟩) (he : starEach (a :: [b]) X.env = (false, eval a X.env) :: starEach [b] X.env := by rfl) (hpl : (backTo pos (starEach [b] X.env)).any (·.1) = false := by rfl) : PE X (.Call (.Name "min" p) [a, b] [] pos) (tM c W (mCallB gMin fs)) :=
  e_callB (call_min2 hc) gMin_ok hgl hm (by decide +kernel) ha F (by decide) (by decide) he hpl
theorem e_ord (ha : PA X (e :: []) (tMA c W fs)) (hm : c.mg "ord" = none) (hgl : Gl X "ord" := by rfl) (F : Fits X c := by exact ⟨rfl, rfl⟩) (he : starEach (e :: []) X.env = (false, eval e X.env) :: starEach [] X.env := by rfl) (hpl : (backTo pos (starEach [] X.env)).any (·.1) = false := by rfl) : PE X (.Call (.Name "ord" p) [e] [] pos) (tM c W (mCallB gOrd fs)) :=
  e_callB call_ord gOrd_ok hgl hm (by decide +kernel) ha F (by decide) (by decide) he hpl
theorem e_listc (k : Bool) (ha : PA X (e :: []) (tMA c W fs)) (hm : c.mg "list" = none) (hgl : Gl X "list" := by rfl) (F : Fits X c := by exact ⟨rfl, rfl⟩) (he : starEach (e :: []) X.env = (false, eval e X.env) :: starEach [] X.env := by rfl) (hpl : (backTo pos (starEach [] X.env)).any (·.1) = false := by rfl) : PE X (.Call (.Name "list" p) [e] [] pos) (tM c W (mCallB (gListOf k) fs)) := by
  refine e_callTy (T := "list") (r := fun xs H Q => ∃ p ys, xs = [.ref p] ∧ (SqL c.K H p ys ∨ SqT c.K H p ys) ∧ ∀ l, H l = none → Q (.ref l) (upd H l (.lst ys))) ?_ (gListOf_ok k) hgl hm (by decide +kernel) ha F (by decide) (by decide) he hpl
  rw [← F.K]
  exact call_list_of
theorem e_tuplec (ha : PA X (e :: []) (tMA c W fs)) (hm : c.mg "tuple" = none) (hgl : Gl X "tuple" := by rfl) (F : Fits X c := by exact ⟨rfl, rfl⟩) (he : starEach (e :: []) X.env = (false, eval e X.env) :: starEach [] X.env := by rfl) (hpl : (backTo pos (starEach [] X.env)).any (·.1) = false := by rfl) : PE X (.Call (.Name "tuple" p) [e] [] pos) (tM c W (mCallB gTupOf fs)) := by
  refine e_callTy (T := "tuple") (r := fun xs H Q => ∃ p ys, xs = [.ref p] ∧ ((SqL c.K H p ys ∧ ∀ l, H l = none → Q (.ref l) (upd H l (.tup ys))) ∨ (SqT c.K H p ys ∧ Q (.ref p) H))) ?_ gTupOf_ok hgl hm (by decide +kernel) ha F (by decide) (by decide) he hpl
  rw [← F.K]
  exact call_tuple_of
end

/-! ### subscripts -/
theorem paired_at {α β : Type} {F : α → β → Prop} {l₁ : List α} {l₂ : List β} {i : Int} {b : β} (h : Paired F l₁ l₂) (e : atI l₂ i = some b) : ∃ a, atI l₁ i = some a ∧ F a b := by
  unfold atI at e ⊢
  obtain ⟨j, h1, h2⟩ := Option.bind_eq_some_iff.mp e
  obtain ⟨a, h3, r⟩ := paired_get h h2
  exact ⟨a, by rw [h.length, h1]; exact h3, r⟩
/-- a dict's pairs -/
def viewK (st : Store) : A → Option (List (Key × A))
  | .d (.dK ds) => some (ds.map fun p => (p.1, .d p.2))
  | .c i => match st[i]? with
    | some (.dK xs) => some xs
    | some (.fz (.dK ds)) => some (ds.map fun p => (p.1, .d p.2))
    | _ => none
  | _ => none
def viewDT (st : Store) : A → Option (List (List Key × A))
  | .d (.dT ds) => some (ds.map fun p => (p.1, .d p.2))
  | .c i => match st[i]? with
    | some (.dT xs) => some xs
    | some (.fz (.dT ds)) => some (ds.map fun p => (p.1, .d p.2))
    | _ => none
  | _ => none
/-- keys -/
def keyD : D → Option Key
  | .int i => some (.inl i)
  | .str x => some (.inr x)
  | _ => none
def keysD : List D → Option (List Key)
  | [] => some []
  | d :: ds => match keyD d, keysD ds with
    | some k, some ks => some (k :: ks)
    | _, _ => none
def kD : Key → D
  | .inl i => .int i
  | .inr x => .str x
theorem keyD_kD (k : Key) : keyD (kD k) = some k := by cases k <;> rfl
theorem keysD_map : ∀ ks : List Key, keysD (ks.map kD) = some ks
  | [] => rfl
  | k :: ks => by rw [List.map_cons, keysD, keyD_kD, keysD_map ks]
section
variable {c : Ctx} {w : Wd} {n : Nat} {σa : Slots} {st : Store} {σ : L2.St} {H : Hp} {W : WX}
theorem keyD_ok {G : Hp} : ∀ {d : D} {v : V} {k : Key}, DR c G d v → keyD d = some k → v = kV k := by
  intro d v k r h
  cases d with
  | int i => cases h; exact r
  | str x => cases h; exact r
  | _ => cases h
theorem keysD_ok {G : Hp} : ∀ {ds : List D} {vs : List V} {ks : List Key}, DRs c G ds vs → keysD ds = some ks → vs = ks.map kV
  | [], _, _, h, e => by cases e; exact h
  | d :: ds, _, _, ⟨v, r, h1, h2, h3⟩, e => by
    unfold keysD at e
    split at e
    · rename_i k ks e1 e2
      cases e
      rw [h1, keyD_ok h2 e1, keysD_ok h3 e2]
      rfl
    · cases e
theorem kas_d {κ : Type} {us : List (κ × V)} {ds : List (κ × D)} (h : Paired (KD fun v d => DR c w.G d v) us ds) : Paired (KD (RA c w n)) us (ds.map fun p => (p.1, .d p.2)) :=
  paired_map (F := KD (RA c w n)) (fun p : κ × D => (p.1, A.d p.2)) (paired_imp h fun _ _ q => q)
theorem viewK_ok (rl : RelS c w st H) : ∀ {x : A} {v : V} {xs : List (Key × A)}, RA c w st.length v x → viewK st x = some xs → ∃ a us, v = .ref a ∧ Rd H a (.dK us) ∧ Paired (KD (RA c w st.length)) us xs
  | .d x, v, xs, r, h => by
    cases x with
    | dK ds =>
      cases h
      obtain ⟨a, us, rfl, e, p⟩ := r
      exact ⟨a, us, rfl, same_rd rl.same e, kas_d p.pair⟩
    | _ => cases h
  | .c i, v, xs, ⟨h1, h2⟩, h => by
    have h : (match st[i]? with | some (.dK xs) => some xs | some (.fz (.dK ds)) => some (ds.map fun p => (p.1, A.d p.2)) | _ => none) = some xs := h
    split at h
    · rename_i q
      cases h
      obtain ⟨_, us, e, p⟩ := rl.cell _ _ q
      exact ⟨_, us, h2, .inl e, p⟩
    · rename_i q
      cases h
      obtain ⟨⟨a, us, e0, e, p⟩, _⟩ := rl.cell _ _ q
      cases e0
      exact ⟨_, us, h2, same_rd rl.same e, kas_d p.pair⟩
    · cases h
theorem viewDT_ok (rl : RelS c w st H) : ∀ {x : A} {v : V} {xs : List (List Key × A)}, RA c w st.length v x → viewDT st x = some xs → ∃ a us, v = .ref a ∧ Rd H a (.dT us) ∧ Paired (KD (RA c w st.length)) us xs
  | .d x, v, xs, r, h => by
    cases x with
    | dT ds =>
      cases h
      obtain ⟨a, us, rfl, e, p⟩ := r
      exact ⟨a, us, rfl, same_rd rl.same e, kas_d p.pair⟩
    | _ => cases h
  | .c i, v, xs, ⟨h1, h2⟩, h => by
    have h : (match st[i]? with | some (.dT xs) => some xs | some (.fz (.dT ds)) => some (ds.map fun p => (p.1, A.d p.2)) | _ => none) = some xs := h
    split at h
    · rename_i q
      cases h
      obtain ⟨_, us, e, p⟩ := rl.cell _ _ q
      exact ⟨_, us, h2, .inl e, p⟩
    · rename_i q
      cases h
      obtain ⟨⟨a, us, e0, e, p⟩, _⟩ := rl.cell _ _ q
      cases e0
      exact ⟨_, us, h2, same_rd rl.same e, kas_d p.pair⟩
    · cases h
end
end Am
/-! ### Am: subscripts, in, slices, stores, fields, methods -/
namespace Am
open PySem PySem.Spec PyProof.Rows L2
/-! tables -/
section
variable {κ α : Type} [DecidableEq κ]
def lookK (kvs : List (κ × α)) (k : κ) : Option α := (kvs.find? fun kv => decide (kv.1 = k)).map (·.2)
def putA (kvs : List (κ × α)) (k : κ) (v : α) : List (κ × α) :=
  if (kvs.any fun kv => decide (kv.1 = k)) = true then kvs.map (fun kv => if kv.1 = k then (kv.1, v) else kv) else kvs ++ [(k, v)]
def dropA (kvs : List (κ × α)) (k : κ) : List (κ × α) := kvs.filter fun kv => decide (kv.1 ≠ k)
variable {F : V → α → Prop}
theorem lookK_ok {k : κ} : ∀ {us : List (κ × V)} {xs : List (κ × α)}, Paired (KD F) us xs → (lookK xs k = none → valV us k = none) ∧ ∀ a, lookK xs k = some a → ∃ v, valV us k = some v ∧ F v a
  | _, _, .nil => ⟨fun _ => rfl, fun a h => by cases h⟩
  | _, _, .cons (a := (k1, v)) (b := (k2, x)) (l₂ := l2) ⟨e, r⟩ t => by
    have e : k1 = k2 := e
    subst e
    have ih := lookK_ok (k := k) t
    by_cases h : k1 = k
    · refine ⟨fun z => ?_, fun a z => ?_⟩
      · simp [lookK, List.find?_cons, h] at z
      · simp only [lookK, List.find?_cons, h, decide_true, Option.map_some] at z
        cases z
        exact ⟨v, valV_pos (p := (k1, v)) h, r⟩
    · have e1 : lookK ((k1, x) :: l2) k = lookK l2 k := by unfold lookK; rw [List.find?_cons]; simp only [h, decide_false]
      rw [e1, valV_neg (p := (k1, v)) h]
      exact ih
theorem any_ok {k : κ} : ∀ {us : List (κ × V)} {xs : List (κ × α)}, Paired (KD F) us xs → (us.any fun kv => decide (kv.1 = k)) = xs.any fun kv => decide (kv.1 = k)
  | _, _, .nil => rfl
  | _, _, .cons ⟨e, r⟩ t => by rw [List.any_cons, List.any_cons, e, any_ok t]
theorem paired_upd {k : κ} {v : V} {a : α} (r : F v a) : ∀ {us : List (κ × V)} {xs : List (κ × α)}, Paired (KD F) us xs → Paired (KD F) (us.map fun kv => if kv.1 = k then (kv.1, v) else kv) (xs.map fun kv => if kv.1 = k then (kv.1, a) else kv)
  | _, _, .nil => .nil
  | _, _, .cons (a := (k1, v1)) (b := (k2, x2)) ⟨e, q⟩ t => by
    have e : k1 = k2 := e
    subst e
    refine .cons ?_ (paired_upd r t)
    show KD F (if k1 = k then (k1, v) else (k1, v1)) (if k1 = k then (k1, a) else (k1, x2))
    by_cases z : k1 = k
    · rw [if_pos z, if_pos z]; exact ⟨rfl, r⟩
    · rw [if_neg z, if_neg z]; exact ⟨rfl, q⟩
theorem putA_ok {k : κ} {v : V} {a : α} (r : F v a) {us : List (κ × V)} {xs : List (κ × α)} (h : Paired (KD F) us xs) : Paired (KD F) (putK us k v) (putA xs k a) := by
  unfold putK putA
  rw [any_ok h]
  split
  · exact paired_upd r h
  · exact paired_append h (.cons ⟨rfl, r⟩ .nil)
theorem dropA_ok {k : κ} {us : List (κ × V)} {xs : List (κ × α)} (h : Paired (KD F) us xs) : Paired (KD F) (dropK us k) (dropA xs k) := by
  unfold dropK dropA
  induction h with
  | nil => exact .nil
  | @cons p q l1 l2 pq _ ih =>
    rw [List.filter_cons, List.filter_cons, pq.1]
    split
    · exact .cons pq ih
    · exact ih
end
/-! x[i] -/
def keysT (y : A) : Option (List Key) := match y with
  | .d (.tup ds) => keysD ds
  | _ => none
def keyA (y : A) : Option Key := match y with
  | .d d => keyD d
  | .c _ => none
noncomputable def gIx : A → A → Store → Res A := fun x y st => match x, y with
  | .d (.str z), .d (.int i) => match atI z.cps.toList i with
    | some k => ifc (z.length ≤ SZ) (.ok (.d (.str ⟨#[k]⟩)) st) .no
    | none => .no
  | x, y => match viewS st x with
    | some xs => match y with
      | .d (.int i) => match atI xs i with
        | some a => .ok a st
        | none => .no
      | _ => .no
    | none => match viewT x with
      | some ds => match y with
        | .d (.int i) => match atI ds i with
          | some a => .ok (.d a) st
          | none => .no
        | _ => .no
      | none => match viewK st x with
        | some kvs => match keyA y with
          | some k => match lookK kvs k with
            | some a => .ok a st
            | none => .no
          | none => .no
        | none => match viewDT st x with
          | some kvs => match keysT y with
            | some k => match lookK kvs k with
              | some a => .ok a st
              | none => .no
            | none => .no
          | none => .no
def rIxD : R2 := fun x y H Q => ∃ a v, x = .ref a ∧ DGet H a y (some v) ∧ Q v H
def rIxAll (K : PySem.W.Frag) : R2 := fun x y H Q => rIx K x y H Q ∨ rIxD x y H Q
section
variable {X : Cx} {c : Ctx} {W : WX} {a b e : Expr} {es : List Expr} {fa fb f : ME} {fs : MA} {p pos : Pos} {k : Nat}
theorem OpR.orIx {r r' : R2} (h : IxR X r) (h' : IxR X r') : IxR X (fun x y H Q => r x y H Q ∨ r' x y H Q) := by
  intro value slice pins s σ H x y v u Q I rx ry q
  rcases q with q | q
  · exact h value slice pins s σ H x y v u Q I rx ry q
  · exact h' value slice pins s σ H x y v u Q I rx ry q
theorem ix_dict (hu : X.A.units + 1 < cLine) : IxR X rIxD := by
  intro value slice pins s σ H x y v u Q I rx ry h hs
  obtain ⟨a, z, rfl, g, q⟩ := h
  obtain rfl : v = Value.ref a := rx
  have hT := dict_typeIs I g
  have h2 : wpAny (model X.prog X.w) X.A (getItem (.ref a) u) (EP X pins σ Q) X.xe s := d_getItem hu I g ry fun w' s3 I3 rw' => ⟨z, H, I3, rw', q⟩
  unfold subscriptTail
  refine wpAny_bind ?_
  rw [getitemInPython_of_ne hT.not_modules]
  refine wpAny_bind (wpAny_specialOf hT PySem.F.slot_dict_getitem.lookup ?_)
  have fin : wpAny (model X.prog X.w) X.A (subscripted slice false (.ref a) u) (fun r s₃ => wpAny (model X.prog X.w) X.A (letTemporaryGo value (.ref a) r >>= fun _ => pure r) (EP X pins σ Q) X.xe s₃) X.xe s := by
    rw [hs]
    exact wpAny_operating (wpAny_mono h2 (fun r s₃ h₃ => wpAny_bind (wpAny_letTemporaryGo (wpAny_pure h₃))) fun _ _ x => x)
  first
    | exact wpAny_pure (wpAny_bind fin)
    | exact wpAny_bind (wpAny_pure (wpAny_bind fin))
    | exact wpAny_bind fin
theorem keyA_ok {w : Wd} {n : Nat} {y : A} {u : V} {k : Key} (r : RA c w n u y) (h : keyA y = some k) : u = kV k := by
  cases y with
  | d x => exact keyD_ok r h
  | c i => cases h
theorem keysT_ok {w : Wd} {n : Nat} {H : Hp} (sm : Same w.G H) {y : A} {u : V} {k : List Key} (r : RA c w n u y) (h : keysT y = some k) : ∃ b, u = .ref b ∧ H b = some (.tup (k.map kV)) := by
  unfold keysT at h
  split at h
  · obtain ⟨b, vs, rfl, e, p⟩ := r
    rw [keysD_ok p h] at e
    exact ⟨b, rfl, sm _ _ e⟩
  · cases h
theorem dget_k {H : Hp} {a : Addr} {kvs : List (Key × V)} {k : Key} (e : Rd H a (.dK kvs)) : DGet H a (kV k) (valV kvs k) := .inl ⟨kvs, k, e, rfl, rfl⟩
theorem dget_t {H : Hp} {a b : Addr} {kvs : List (List Key × V)} {k : List Key} (e : Rd H a (.dT kvs)) (eb : H b = some (.tup (k.map kV))) : DGet H a (.ref b) (valV kvs k) := .inr ⟨kvs, k, b, e, rfl, eb, rfl⟩
theorem gIx_ok : OpA c (rIxAll c.K) gIx := by
  intro w σa st σ H x y v u W Q rl rx ry p
  unfold gIx at p
  simp only [ifc] at p
  split at p
  · split at p
    · rename_i hk
      split at p
      · rename_i hz
        exact .inl (.inr (.inr ⟨_, _, _, rx, ry, SZ_le hz, hk, p.here rl rfl⟩))
      · exact p.elim
    · exact p.elim
  · split at p
    · rename_i hv
      obtain ⟨_, us, rfl, q, pr⟩ := viewS_ok rl.rs rx hv
      split at p
      · split at p
        · rename_i ha
          obtain ⟨z, e, r⟩ := paired_at pr ha
          exact .inl (.inl ⟨_, us, _, z, rfl, ry, q, e, p.here rl r⟩)
        · exact p.elim
      · exact p.elim
    · split at p
      · rename_i hv
        obtain ⟨_, us, rfl, q, pr⟩ := viewT_ok rl.rs rx hv
        split at p
        · split at p
          · rename_i ha
            obtain ⟨z, e, r⟩ := paired_at pr.pair ha
            exact .inl (.inr (.inl ⟨_, us, _, z, rfl, ry, q, e, p.here rl r⟩))
          · exact p.elim
        · exact p.elim
      · split at p
        · rename_i hv
          obtain ⟨_, us, rfl, q, pr⟩ := viewK_ok rl.rs rx hv
          split at p
          · rename_i hk
            split at p
            · rename_i ha
              obtain ⟨z, e, r⟩ := (lookK_ok pr).2 _ ha
              have := keyA_ok ry hk
              subst this
              exact .inr ⟨_, z, rfl, by rw [← e]; exact dget_k q, p.here rl r⟩
            · exact p.elim
          · exact p.elim
        · split at p
          · rename_i hv
            obtain ⟨_, us, rfl, q, pr⟩ := viewDT_ok rl.rs rx hv
            split at p
            · rename_i hk
              split at p
              · rename_i ha
                obtain ⟨z, e, r⟩ := (lookK_ok pr).2 _ ha
                obtain ⟨b, rfl, eb⟩ := keysT_ok rl.rs.same ry hk
                exact .inr ⟨_, z, rfl, by rw [← e]; exact dget_t q eb, p.here rl r⟩
              · exact p.elim
            · exact p.elim
          · exact p.elim
theorem ix_all (hr : Room k X.A) (F : Fits X c) : IxR X (rIxAll c.K) := by rw [← F.K]; exact OpR.orIx ix_seq (ix_dict (hu_of hr))
theorem e_ix (hr : Room k X.A) (ha : PE X a (tM c W fa)) (hb : PE X b (tM c W fb)) (hs : PlainIx b := by exact fun _ _ => rfl) (F : Fits X c := by exact ⟨rfl, rfl⟩) : PE X (.Subscript a b pos) (tM c W (mBin gIx fa fb)) :=
  pe_imp (pe_ix (ix_all hr F) ha hb hs) (entail_op gIx_ok)
end
/-! in -/
def flatD : D → Bool
  | .non => true
  | .bl _ => true
  | .int _ => true
  | .str _ => true
  | _ => false
def dV : D → V
  | .bl b => .bl b
  | .int i => .int i
  | .str x => .str x
  | _ => .non
def allFlat (xs : List A) : Option (List D) := (allD xs).bind fun ds => if ds.all flatD then some ds else none
def gIn (neg : Bool) : A → A → Store → Res A := fun y x st => match y, x with
  | .d (.str i), .d (.str j) => .ok (.d (.bl (if neg then !(!(Builtin.Str.occurrences j i 0 j.length 1).isEmpty) else !(Builtin.Str.occurrences j i 0 j.length 1).isEmpty))) st
  | y, x => match viewK st x with
    | some kvs => match keyA y with
      | some k => .ok (.d (.bl (if neg then !(lookK kvs k).isSome else (lookK kvs k).isSome))) st
      | none => .no
    | none => match viewDT st x with
      | some kvs => match keysT y with
        | some k => .ok (.d (.bl (if neg then !(lookK kvs k).isSome else (lookK kvs k).isSome))) st
        | none => .no
      | none => match (match viewS st x with | some xs => some xs | none => (viewT x).map fun ds => ds.map A.d) with
        | some xs => match allFlat xs, y with
          | some ds, .d d => if flatD d then .ok (.d (.bl (if neg then !inV (dV d) (ds.map dV) else inV (dV d) (ds.map dV)))) st else .no
          | _, _ => .no
        | none => .no
def rInS (neg : Bool) : R2 := fun x y H Q => ∃ i j, x = .str i ∧ y = .str j ∧ Q (.bl (if neg then !(!(Builtin.Str.occurrences j i 0 j.length 1).isEmpty) else !(Builtin.Str.occurrences j i 0 j.length 1).isEmpty)) H
def rInD (neg : Bool) : R2 := fun y x H Q => ∃ a o, x = .ref a ∧ DGet H a y o ∧ Q (.bl (if neg then !o.isSome else o.isSome)) H
def rInAll (K : PySem.W.Frag) (neg : Bool) : R2 := fun x y H Q => rInS neg x y H Q ∨ (rInD neg x y H Q ∨ rIn K neg x y H Q)
section
variable {X : Cx} {c : Ctx} {W : WX} {a b e : Expr} {es : List Expr} {fa fb f : ME} {fs : MA} {p pos : Pos} {k : Nat}
theorem flat_ok {G : Hp} : ∀ {d : D} {v : V}, DR c G d v → flatD d = true → v = dV d ∧ flatV v = true := by
  intro d v r h
  cases d with
  | non => cases r; exact ⟨rfl, rfl⟩
  | bl _ => cases r; exact ⟨rfl, rfl⟩
  | int _ => cases r; exact ⟨rfl, rfl⟩
  | str _ => cases r; exact ⟨rfl, rfl⟩
  | _ => cases h
theorem flats_ok {G : Hp} : ∀ {ds : List D} {vs : List V}, DRs c G ds vs → ds.all flatD = true → vs = ds.map dV ∧ vs.all flatV = true
  | [], _, h, _ => by cases h; exact ⟨rfl, rfl⟩
  | d :: ds, _, ⟨v, r, h1, h2, h3⟩, e => by
    rw [List.all_cons, Bool.and_eq_true] at e
    obtain ⟨e1, e2⟩ := flat_ok h2 e.1
    obtain ⟨e3, e4⟩ := flats_ok h3 e.2
    subst h1
    exact ⟨by rw [e1, e3]; rfl, by rw [List.all_cons, e2, e4]; rfl⟩
theorem allFlat_ok {w : Wd} {n : Nat} {xs : List A} {vs : List V} {ds : List D} (r : Paired (RA c w n) vs xs) (h : allFlat xs = some ds) : vs = ds.map dV ∧ vs.all flatV = true := by
  unfold allFlat at h
  obtain ⟨ds', h1, h2⟩ := Option.bind_eq_some_iff.mp h
  split at h2
  · rename_i hf
    cases h2
    rw [allD_eq h1] at r
    exact flats_ok (ras_of_d r) hf
  · cases h2
theorem gIn_ok (neg : Bool) : OpA c (rInAll c.K neg) (gIn neg) := by
  intro w σa st σ H x y v u W Q rl rx ry p
  unfold gIn at p
  split at p
  · exact .inl ⟨_, _, rx, ry, p.here rl rfl⟩
  · split at p
    · rename_i kvs hv
      obtain ⟨_, us, rfl, q, pr⟩ := viewK_ok rl.rs ry hv
      split at p
      · rename_i k hk
        have := keyA_ok rx hk
        subst this
        refine .inr (.inl ⟨_, valV us k, rfl, dget_k q, p.here rl ?_⟩)
        have e : (valV us k).isSome = (lookK kvs k).isSome := by
          cases hl : lookK kvs k with
          | none => rw [(lookK_ok pr).1 hl]; rfl
          | some a => obtain ⟨z, e, _⟩ := (lookK_ok pr).2 _ hl; rw [e]; rfl
        rw [e]
        rfl
      · exact p.elim
    · split at p
      · rename_i kvs hv
        obtain ⟨_, us, rfl, q, pr⟩ := viewDT_ok rl.rs ry hv
        split at p
        · rename_i k hk
          obtain ⟨b, rfl, eb⟩ := keysT_ok rl.rs.same rx hk
          refine .inr (.inl ⟨_, valV us k, rfl, dget_t q eb, p.here rl ?_⟩)
          have e : (valV us k).isSome = (lookK kvs k).isSome := by
            cases hl : lookK kvs k with
            | none => rw [(lookK_ok pr).1 hl]; rfl
            | some a => obtain ⟨z, e, _⟩ := (lookK_ok pr).2 _ hl; rw [e]; rfl
          rw [e]
          rfl
        · exact p.elim
      · split at p
        · rename_i xs hv
          have hx : ∃ a vs, u = .ref a ∧ (SqL c.K H a vs ∨ SqT c.K H a vs) ∧ Paired (RA c w st.length) vs xs := by
            split at hv
            · rename_i hs
              cases hv
              obtain ⟨a, vs, e, q, pr⟩ := viewS_ok rl.rs ry hs
              exact ⟨a, vs, e, .inl q, pr⟩
            · obtain ⟨ds, hs, rfl⟩ := Option.map_eq_some_iff.mp hv
              obtain ⟨a, vs, e, q, pr⟩ := viewT_ok rl.rs ry hs
              exact ⟨a, vs, e, .inr q, ras_d pr⟩
          obtain ⟨a, vs, rfl, q, pr⟩ := hx
          split at p
          · rename_i ds d hf _
            split at p
            · rename_i hd
              obtain ⟨e1, e2⟩ := allFlat_ok pr hf
              obtain ⟨e3, e4⟩ := flat_ok rx hd
              refine .inr (.inr ⟨_, vs, rfl, q, e4, e2, ?_⟩)
              rw [e1, e3]
              exact p.here rl rfl
            · exact p.elim
          · exact p.elim
        · exact p.elim
theorem op_inD (hu : X.A.units + 1 < cLine) : OpR X (compareOp .In) (rInD false) := by
  intro pins s σ H y x iv u Q I ry rx h
  obtain ⟨a, o, rfl, g, q⟩ := h
  obtain rfl : u = Value.ref a := rx
  exact d_in hu I g ry fun s3 I3 => ⟨.bl o.isSome, H, I3, rfl, q⟩
theorem op_notInD (hu : X.A.units + 1 < cLine) : OpR X (compareOp .NotIn) (rInD true) := by
  intro pins s σ H y x iv u Q I ry rx h
  obtain ⟨a, o, rfl, g, q⟩ := h
  obtain rfl : u = Value.ref a := rx
  exact d_notIn hu I g ry fun s3 I3 => ⟨.bl (!o.isSome), H, I3, rfl, q⟩
theorem op_inAll (hr : Room k X.A) (F : Fits X c) : OpR X (compareOp .In) (rInAll c.K false) := by
  rw [← F.K]
  exact OpR.or (show OpR X (compareOp .In) (rInS false) from op_in_str) (OpR.or (op_inD (hu_of hr)) op_in_seq)
theorem op_notInAll (hr : Room k X.A) (F : Fits X c) : OpR X (compareOp .NotIn) (rInAll c.K true) := by
  rw [← F.K]
  exact OpR.or (show OpR X (compareOp .NotIn) (rInS true) from op_notin_str) (OpR.or (op_notInD (hu_of hr)) op_notIn_seq)
theorem e_in (hr : Room k X.A) (ha : PE X a (tM c W fa)) (hb : PE X b (tM c W fb)) (hm : behindInMarks .In b = false := by rfl) (F : Fits X c := by exact ⟨rfl, rfl⟩) : PE X (.Compare a [.In] [b] pos) (tM c W (mBin (gIn false) fa fb)) := e_cmp (op_inAll hr F) (gIn_ok _) ha hb hm
theorem t_in (hr : Room k X.A) (ha : PE X a (tM c W fa)) (hb : PE X b (tM c W fb)) (hm : behindInMarks .In b = false := by rfl) (F : Fits X c := by exact ⟨rfl, rfl⟩) : PT X (.Compare a [.In] [b] pos) (tT c W (mTst (mBin (gIn false) fa fb))) := t_cmp (op_inAll hr F) (gIn_ok _) ha hb hm
theorem e_notin (hr : Room k X.A) (ha : PE X a (tM c W fa)) (hb : PE X b (tM c W fb)) (hm : behindInMarks .NotIn b = false := by rfl) (F : Fits X c := by exact ⟨rfl, rfl⟩) : PE X (.Compare a [.NotIn] [b] pos) (tM c W (mBin (gIn true) fa fb)) := e_cmp (op_notInAll hr F) (gIn_ok _) ha hb hm
theorem t_notin (hr : Room k X.A) (ha : PE X a (tM c W fa)) (hb : PE X b (tM c W fb)) (hm : behindInMarks .NotIn b = false := by rfl) (F : Fits X c := by exact ⟨rfl, rfl⟩) : PT X (.Compare a [.NotIn] [b] pos) (tT c W (mTst (mBin (gIn true) fa fb))) := t_cmp (op_notInAll hr F) (gIn_ok _) ha hb hm
end
/-! slices -/
abbrev MO := Slots → Store → Res (Option Int)
def mNoPart : MO := fun _ st => .ok none st
def mPart (f : ME) : MO := fun σ st => (f σ st).bind fun a st1 => match a with
  | .d (.int i) => .ok (some i) st1
  | _ => .no
def cutA {α : Type} (xs : List α) (lo hi : Option Int) : List α := (xs.drop (HT.sIx xs.length 0 lo)).take (HT.sIx xs.length xs.length hi - HT.sIx xs.length 0 lo)
noncomputable def gSl (k : Bool) (x : A) (lo hi : Option Int) (st : Store) : Res A := match x with
  | .d (.str z) => ifc (z.length ≤ SZ) (.ok (.d (.str (cutS z lo hi))) st) .no
  | x => match viewS st x with
    | some xs => mkL k (cutA xs lo hi) st
    | none => match x with
      | .d (.tup ds) => mkT ((cutA ds lo hi).map .d) st
      | _ => .no
noncomputable def mSl (k : Bool) (f : ME) (l u : MO) : ME := fun σ st => (f σ st).bind fun x st1 => (l σ st1).bind fun lo st2 => (u σ st2).bind fun hi st3 => gSl k x lo hi st3
def tMO (c : Ctx) (W : WX) (f : MO) : TO := fun σ H Q => ∃ w σa st, Rel c w σa st σ H ∧ Post c w st.length σa σ (fun _ _ b b' => b = b') W Q (f σa st)
def rSlAll (K : PySem.W.Frag) : V → Option Int → Option Int → Hp → VK → Prop := fun x lo hi H Q => rSlS x lo hi H Q ∨ (rSlL K x lo hi H Q ∨ rSlA K x lo hi H Q)
section
variable {X : Cx} {c : Ctx} {W : WX} {a b e : Expr} {es : List Expr} {lo hi : Option Expr} {fl fh : MO} {fa fb f : ME} {fs : MA} {p p2 pos : Pos}
theorem o_none : PO X none (tMO c W mNoPart) := ⟨fun pins s σ H Q I ⟨w, σa, st, rl, p⟩ => po_none.run pins s σ H Q I (p.here rl rfl)⟩
theorem o_some (h : PE X e (tM c W f)) : PO X (some e) (tMO c W (mPart f)) := ⟨fun pins s σ H Q I ⟨w, σa, st, rl, p⟩ => (po_some h).run pins s σ H Q I ⟨w, σa, st, rl, p.bind fun v x st1 w1 H1 _ rl1 rx p1 => by
  split at p1
  · exact ⟨_, rx, p1.here rl1 rfl⟩
  · exact p1.elim⟩⟩
theorem paired_cut {α β : Type} {F : α → β → Prop} {l₁ : List α} {l₂ : List β} (h : Paired F l₁ l₂) (lo hi : Option Int) : Paired F (cutA l₁ lo hi) (cutA l₂ lo hi) := by
  unfold cutA
  rw [h.length]
  exact paired_take _ (paired_drop _ h)
theorem cutA_whole {α : Type} {xs : List α} {lo hi : Option Int} (h : HT.sIx xs.length 0 lo = 0 ∧ HT.sIx xs.length xs.length hi = xs.length) : cutA xs lo hi = xs := by
  unfold cutA
  rw [h.1, h.2, List.drop_zero, Nat.sub_zero, List.take_length]
theorem sl_all (F : Fits X c) : SlR X (rSlAll c.K) := by rw [← F.K]; exact SlR.or sl_str (SlR.or sl_list sl_tupA)
theorem gSl_ok {k : Bool} {w : Wd} {σa : Slots} {st : Store} {σ : L2.St} {H : Hp} {x : A} {v : V} {l h : Option Int} {Q : VK} (rl : Rel c w σa st σ H) (rx : RA c w st.length v x) (p : Post c w st.length σa σ (RA c) W Q (gSl k x l h st)) : rSlAll c.K v l h H Q := by
  unfold gSl at p
  simp only [ifc] at p
  split at p
  · split at p
    · rename_i hz
      exact .inl ⟨_, rx, SZ_le hz, p.here rl rfl⟩
    · exact p.elim
  · split at p
    · rename_i hv
      obtain ⟨_, us, rfl, q, pr⟩ := viewS_ok rl.rs rx hv
      exact .inr (.inl ⟨_, us, rfl, q, (mkL_ok rl (paired_cut pr l h) p).2⟩)
    · split at p
      · have rx0 := rx
        obtain ⟨a, us, rfl, q, pr⟩ := rx
        have hl := pr.pair.length
        refine .inr (.inr ⟨_, us, rfl, .of (rl.rs.same _ _ q), fun z => ?_, fun _ => (mkT_ok rl (ras_d (DRs.of (paired_cut pr.pair l h))) p).2⟩)
        rw [hl] at z
        rw [cutA_whole z] at p
        obtain ⟨_, p⟩ := mkT_data p
        exact p.here rl rx0
      · exact p.elim
theorem e_sl (k : Bool) (he : PE X e (tM c W f)) (hl : PO X lo (tMO c W fl)) (hu : PO X hi (tMO c W fh)) (F : Fits X c := by exact ⟨rfl, rfl⟩) : PE X (.Subscript e (.Slice lo hi none p2) pos) (tM c W (mSl k f fl fh)) :=
  pe_imp (pe_slice (sl_all F) he hl hu) fun σ H Q ⟨w, σa, st, rl, p⟩ => ⟨w, σa, st, rl, p.bind fun v x st1 w1 H1 _ rl1 rx p1 => ⟨w1, σa, st1, rl1, p1.bind fun l l' st2 w2 H2 e2 rl2 r2 p2 => ⟨w2, σa, st2, rl2, p2.bind fun u u' st3 w3 H3 e3 rl3 r3 p3 => by
    subst r2 r3
    exact gSl_ok rl3 ((rx.ext e2).ext e3) p3⟩⟩⟩
/-- xs[::-1] -/
noncomputable def gRev (k : Bool) (x : A) (st : Store) : Res A := match viewS st x with
  | some xs => mkL k xs.reverse st
  | none => .no
theorem e_rev (k : Bool) {n : Nat} {p1 p2 p3 pos : Pos} (he : PE X e (tM c W f)) (F : Fits X c := by exact ⟨rfl, rfl⟩) : PE X (.Subscript e (.Slice none none (some (.UnaryOp .USub (.Constant (.int 1) n p1) p2)) p3) pos) (tM c W (mUn (gRev k) f)) :=
  pe_imp (pe_revL he) fun σ H Q ⟨w, σa, st, rl, p⟩ => ⟨w, σa, st, rl, p.bind fun v x st1 w1 H1 _ rl1 rx p1 => by
    unfold gRev at p1
    split at p1
    · rename_i hv
      obtain ⟨_, us, rfl, q, pr⟩ := viewS_ok rl1.rs rx hv
      exact ⟨_, us, rfl, by rw [F.K]; exact q, (mkL_ok rl1 (paired_reverse pr) p1).2⟩
    · exact p1.elim⟩
end
end Am
/-! ### Am: freezing, methods of lists, statements -/
namespace Am
open PySem PySem.Spec PyProof.Rows L2
/-! ### a cell becomes data -/
section
variable {c : Ctx} {w : Wd} {n : Nat} {σa : Slots} {st : Store} {σ : L2.St} {H : Hp} {W : WX}
theorem RelS.freeze (r : RelS c w st H) {i : Nat} {x : Cell} {d : D} {o : HO} (h : st[i]? = some x) (g : w.G (w.E i) = none) (ho : H (w.E i) = some o) (hd : DR c (upd w.G (w.E i) o) d (.ref (w.E i))) : RelS c (w.put (w.E i) o) (st.set i (.fz d)) H where
  same := fun b y e => by
    have e : upd w.G (w.E i) o b = some y := e
    by_cases hb : b = w.E i
    · subst hb; rw [upd_same] at e; rw [← e]; exact ho
    · rw [upd_ne hb] at e; exact r.same b y e
  inj := fun j k hj hk => by
    rw [List.length_set] at hj hk
    exact r.inj j k hj hk
  cell := fun j y hj => by
    rw [List.length_set]
    by_cases e : j = i
    · subst e
      rw [List.getElem?_set_self (RelS.lt h)] at hj
      cases hj
      exact ⟨hd, by show H (w.E j) ≠ none; rw [ho]; exact fun z => nomatch z⟩
    · rw [List.getElem?_set_ne (Ne.symm e)] at hj
      have ne : w.E j ≠ w.E i := fun q => e (r.inj j i (RelS.lt hj) (RelS.lt h) q)
      exact (r.cell j y hj).stay (w.put_ext g) (fun q => by show upd w.G (w.E i) o (w.E j) = none; rw [upd_ne ne]; exact q) rfl
theorem Rel.freeze (r : Rel c w σa st σ H) {i : Nat} {x : Cell} {d : D} {o : HO} (h : st[i]? = some x) (g : w.G (w.E i) = none) (ho : H (w.E i) = some o) (hd : DR c (upd w.G (w.E i) o) d (.ref (w.E i))) : Rel c (w.put (w.E i) o) σa (st.set i (.fz d)) σ H :=
  ⟨r.rs.freeze h g ho hd, r.len, fun j a hj => let ⟨v, e, q⟩ := r.sl j a hj; ⟨v, e, by rw [List.length_set]; exact q.ext (w.put_ext g)⟩⟩
end
/-- a cell's data, if all in it are data -/
def pairsD {κ : Type} : List (κ × A) → Option (List (κ × D))
  | [] => some []
  | (k, .d x) :: r => (pairsD r).map ((k, x) :: ·)
  | (_, .c _) :: _ => none
theorem pairsD_eq {κ : Type} : ∀ {xs : List (κ × A)} {ds : List (κ × D)}, pairsD xs = some ds → xs = ds.map fun p => (p.1, .d p.2)
  | [], _, h => by cases h; rfl
  | (k, .d x) :: r, ds, h => by
    rw [pairsD] at h
    obtain ⟨r', h1, rfl⟩ := Option.map_eq_some_iff.mp h
    rw [pairsD_eq h1]; rfl
  | (_, .c _) :: _, _, h => by cases h
theorem pairsD_map {κ : Type} : ∀ (ds : List (κ × D)), pairsD (ds.map fun p => (p.1, A.d p.2)) = some ds
  | [] => rfl
  | (k, x) :: xs => by rw [List.map_cons, pairsD, pairsD_map xs]; rfl
def cellD : Cell → Option D
  | .lst xs => (allD xs).map .list
  | .dK xs => (pairsD xs).map .dK
  | .dT xs => (pairsD xs).map .dT
  | .ins x fs => (pairsD fs).map (.ins x)
  | .fz x => some x
/-- freeze: the value as data -/
def frz (a : A) (st : Store) : Res A := match a with
  | .d x => .ok (.d x) st
  | .c i => match st[i]? with
    | some (.fz x) => .ok (.d x) st
    | some x => match cellD x with
      | some d => .ok (.d d) (st.set i (.fz d))
      | none => .no
    | none => .no
def mFrz (f : ME) : ME := fun σ st => (f σ st).bind frz
section
variable {c : Ctx} {w : Wd} {n : Nat} {σa : Slots} {st : Store} {σ : L2.St} {H : Hp} {W : WX} {X : Cx} {e : Expr} {f : ME}
theorem kas_of_d {κ : Type} {us : List (κ × V)} {ds : List (κ × D)} (h : Paired (KD (RA c w n)) us (ds.map fun p => (p.1, .d p.2))) : Paired (KD fun v d => DR c w.G d v) us ds :=
  paired_imp (paired_unmap (fun p : κ × D => (p.1, A.d p.2)) h) fun _ _ q => q
/-- a live cell's object as data -/
theorem cell_live (rl : RelS c w st H) {i : Nat} {x : Cell} {d : D} (h : st[i]? = some x) (nf : ∀ y, x ≠ .fz y) (hd : cellD x = some d) : w.G (w.E i) = none ∧ ∃ o, H (w.E i) = some o ∧ DR c (upd w.G (w.E i) o) d (.ref (w.E i)) := by
  have cr := rl.cell i x h
  cases x with
  | lst xs =>
    obtain ⟨ds, h1, rfl⟩ := Option.map_eq_some_iff.mp hd
    obtain ⟨g, vs, e, p⟩ := cr
    rw [allD_eq h1] at p
    exact ⟨g, _, e, _, vs, rfl, upd_same, (ras_of_d p).same (same_upd g)⟩
  | dK xs =>
    obtain ⟨ds, h1, rfl⟩ := Option.map_eq_some_iff.mp hd
    obtain ⟨g, vs, e, p⟩ := cr
    rw [pairsD_eq h1] at p
    exact ⟨g, _, e, _, vs, rfl, .inl upd_same, (DRk.of (kas_of_d p)).same (same_upd g)⟩
  | dT xs =>
    obtain ⟨ds, h1, rfl⟩ := Option.map_eq_some_iff.mp hd
    obtain ⟨g, vs, e, p⟩ := cr
    rw [pairsD_eq h1] at p
    exact ⟨g, _, e, _, vs, rfl, .inl upd_same, (DRt.of (kas_of_d p)).same (same_upd g)⟩
  | ins y fs =>
    obtain ⟨ds, h1, rfl⟩ := Option.map_eq_some_iff.mp hd
    obtain ⟨g, C, dx, us, e, m, p⟩ := cr
    rw [pairsD_eq h1] at p
    exact ⟨g, _, e, _, C, dx, us, rfl, upd_same, m, (DRf.of (kas_of_d p)).same (same_upd g)⟩
  | fz y => exact absurd rfl (nf y)
theorem frz_ok {a : A} {v : V} {Q : VK} (rl : Rel c w σa st σ H) (r : RA c w st.length v a) (p : Post c w st.length σa σ (RA c) W Q (frz a st)) : Q v H := by
  cases a with
  | d x => exact p.here rl r
  | c i =>
    obtain ⟨hi, rfl⟩ := r
    have p : Post c w st.length σa σ (RA c) W Q (match st[i]? with | some (.fz x) => .ok (.d x) st | some x => (match cellD x with | some d => .ok (.d d) (st.set i (.fz d)) | none => .no) | none => .no) := p
    split at p
    · rename_i h
      exact p.here rl (rl.rs.cell _ _ h).1
    · rename_i x nf h
      split at p
      · rename_i d hd
        obtain ⟨g, o, ho, hr⟩ := cell_live rl.rs h (fun y z => nf y (by rw [z])) hd
        refine p _ _ _ ?_ (rl.freeze h g ho hr) hr
        rw [List.length_set]
        exact w.put_ext g
      · exact p.elim
    · exact p.elim
theorem e_frz (h : PE X e (tM c W f)) : PE X e (tM c W (mFrz f)) := pe_imp h fun σ H Q ⟨w, σa, st, rl, p⟩ => ⟨w, σa, st, rl, p.bind fun v x st1 w1 H1 _ rl1 rx p1 => frz_ok rl1 rx p1⟩
end
/-! ### methods of lists -/
abbrev GM := A → List A → Store → Res A
def MtA (c : Ctx) (r : V → List V → Hp → VK → Prop) (g : GM) : Prop := ∀ (w : Wd) (σa : Slots) (st : Store) (σ : L2.St) (H : Hp) (x : A) (v : V) (xs : List A) (vs : List V) (W : WX) (Q : VK),
  Rel c w σa st σ H → RA c w st.length v x → Paired (RA c w st.length) vs xs → Post c w st.length σa σ (RA c) W Q (g x xs st) → r v vs H Q
def mMethL (g : GM) (f : ME) (fs : MA) : ME := fun σ st => (f σ st).bind fun x st1 => match viewS st1 x with
  | some _ => (fs σ st1).bind fun xs st2 => g x xs st2
  | none => .no
noncomputable def gAppend : GM
  | .c i, [y], st => match st[i]? with
    | some (.lst xs) => ifc (xs.length < SZ) (.ok (.d .non) (st.set i (.lst (xs ++ [y])))) .no
    | _ => .no
  | _, _, _ => .no
noncomputable def gExtend : GM
  | .c i, [y], st => match st[i]? with
    | some (.lst xs) => match viewL st y with
      | some ys => ifc (xs.length + ys.length ≤ SZ) (.ok (.d .non) (st.set i (.lst (xs ++ ys)))) .no
      | none => .no
    | _ => .no
  | _, _, _ => .no
noncomputable def gPopAt : GM
  | .c i, [.d (.int j)], st => match st[i]? with
    | some (.lst xs) => match ixN xs.length j with
      | some k => match xs[k]? with
        | some y => ifc (-(2 ^ 63) ≤ j ∧ j < 2 ^ 63) (.ok y (st.set i (.lst (xs.eraseIdx k)))) .no
        | none => .no
      | none => .no
    | _ => .no
  | _, _, _ => .no
def gIndex : GM := fun x ys st => match viewS st x, ys with
  | some xs, [.d d] => match allFlat xs with
    | some ds => if flatD d then match ds.findIdx? (fun z => eqV (dV z) (dV d)) with
        | some j => .ok (.d (.int (j : Nat))) st
        | none => .no
      else .no
    | none => .no
  | _, _ => .no
theorem paired_erase {α β : Type} {F : α → β → Prop} : ∀ {l₁ : List α} {l₂ : List β}, Paired F l₁ l₂ → ∀ k : Nat, Paired F (l₁.eraseIdx k) (l₂.eraseIdx k)
  | _, _, .nil, _ => .nil
  | _, _, .cons _ t, 0 => t
  | _, _, .cons r t, k + 1 => .cons r (paired_erase t k)
section
variable {X : Cx} {c : Ctx} {W : WX} {o e : Expr} {es : List Expr} {f : ME} {fs : MA} {apos cpos : Pos}
theorem entail_mt {r : V → List V → Hp → VK → Prop} {g : GM} (hg : MtA c r g) (σ : L2.St) (H : Hp) (Q : VK) : tM c W (mMethL g f fs) σ H Q → tBM c.K "list" r (tM c W f) (tMA c W fs) σ H Q := fun ⟨w, σa, st, rl, p⟩ =>
  ⟨w, σa, st, rl, p.bind fun v x st1 w1 H1 _ rl1 rx p1 => by
    split at p1
    · rename_i hv
      obtain ⟨a, us, rfl, q, pr⟩ := viewS_ok rl1.rs rx hv
      refine ⟨.inl ⟨rfl, us, q⟩, ⟨w1, σa, st1, rl1, p1.bind fun vs xs st2 w2 H2 e2 rl2 rxs p2 => hg w2 σa st2 σ H2 x _ xs vs W Q rl2 (rx.ext e2) rxs p2⟩⟩
    · exact p1.elim⟩
theorem e_methL {id : String} {name : Str} {r : V → List V → Hp → VK → Prop} {g : GM} (slot : Slot "list" name id) (hty : typeOf (.builtin id) = pure (.type "method_descriptor")) (hm : MtR X id r) (hg : MtA c r g) (ho : PE X o (tM c W f)) (ha : PA X (e :: es) (tMA c W fs)) (F : Fits X c)
    (hbase : attributeBase o name X.env (eval o X.env) = eval o X.env := by rfl)
    (hfew : ((backTo cpos (starEach (e :: es) X.env)).all (fun x => !x.1) && (backToKw cpos (keywordEach [] X.env)).all (fun x => x.1.isSome)
      && decide ((e :: es).length + ([] : List Keyword).length + (if ([] : List Keyword).isEmpty then 0 else 1) < 30)) = true := by rfl)
    (hline : (apos.endLine == cpos.line) = true := by rfl) (hs : starEach (e :: es) X.env = (false, eval e X.env) :: starEach es X.env := by rfl) (hplain : (backTo cpos (starEach es X.env)).any (·.1) = false := by rfl) :
    PE X (.Call (.Attribute o name apos) (e :: es) [] cpos) (tM c W (mMethL g f fs)) :=
  pe_imp (pe_bm PySem.F.plainAttrs_list slot hty hm ho ha hbase hfew hline hs hplain) (by rw [F.K]; exact entail_mt hg)
theorem gAppend_ok : MtA c rAppend gAppend := by
  intro w σa st σ H x v xs vs W Q rl rx rxs p
  unfold gAppend at p
  simp only [ifc] at p
  split at p
  · obtain ⟨u, rfl, ru⟩ := pr1 rxs
    split at p
    · rename_i h
      split at p
      · rename_i hl
        obtain ⟨g, us, e, pr⟩ := rl.rs.cell _ _ h
        refine ⟨_, us, u, rx.2, rfl, e, by rw [pr.length]; exact Nat.lt_of_lt_of_le hl (by decide), p _ _ _ (by rw [List.length_set]; exact Ext.refl _ _) (rl.write h g ⟨g, _, upd_same, paired_append pr (.cons ru .nil)⟩) rfl⟩
      · exact p.elim
    · exact p.elim
  · exact p.elim
theorem gExtend_ok : MtA c rExtend gExtend := by
  intro w σa st σ H x v xs vs W Q rl rx rxs p
  unfold gExtend at p
  simp only [ifc] at p
  split at p
  · obtain ⟨u, rfl, ru⟩ := pr1 rxs
    split at p
    · rename_i h
      split at p
      · rename_i hv
        split at p
        · rename_i hl
          obtain ⟨g, us, e, pr⟩ := rl.rs.cell _ _ h
          obtain ⟨b, zs, rfl, eb, prz⟩ := viewL_ok rl.rs ru hv
          refine ⟨_, b, us, zs, rx.2, rfl, e, eb, by rw [pr.length, prz.length]; exact SZ_le hl, p _ _ _ (by rw [List.length_set]; exact Ext.refl _ _) (rl.write h g ⟨g, _, upd_same, paired_append pr prz⟩) rfl⟩
        · exact p.elim
      · exact p.elim
    · exact p.elim
  · exact p.elim
theorem gPopAt_ok : MtA c rPopAt gPopAt := by
  intro w σa st σ H x v xs vs W Q rl rx rxs p
  unfold gPopAt at p
  simp only [ifc] at p
  split at p
  · obtain ⟨u, rfl, ru⟩ := pr1 rxs
    cases ru
    split at p
    · rename_i h
      obtain ⟨g, us, e, pr⟩ := rl.rs.cell _ _ h
      split at p
      · rename_i hk
        split at p
        · rename_i hy
          split at p
          · rename_i hj
            obtain ⟨z, hz, rz⟩ := paired_get pr hy
            refine ⟨_, us, _, _, z, rx.2, rfl, e, hj.1, hj.2, by rw [pr.length]; exact (ixN_seq hk).1, hz, p _ _ _ (by rw [List.length_set]; exact Ext.refl _ _) (rl.write h g ⟨g, _, upd_same, paired_erase pr _⟩) (by rw [List.length_set]; exact rz)⟩
          · exact p.elim
        · exact p.elim
      · exact p.elim
    · exact p.elim
  · exact p.elim
theorem gIndex_ok : MtA c (rIndex c.K) gIndex := by
  intro w σa st σ H x v xs vs W Q rl rx rxs p
  unfold gIndex at p
  split at p
  · rename_i hv
    obtain ⟨u, rfl, ru⟩ := pr1 rxs
    obtain ⟨a, us, rfl, q, pr⟩ := viewS_ok rl.rs rx hv
    split at p
    · rename_i ds hf
      split at p
      · rename_i hd
        split at p
        · rename_i j hj
          obtain ⟨e1, e2⟩ := allFlat_ok pr hf
          obtain ⟨e3, e4⟩ := flat_ok ru hd
          obtain ⟨hl, h1, h2⟩ := List.findIdx?_eq_some_iff_getElem.mp hj
          refine ⟨a, us, u, j, dV ds[j], rfl, rfl, q, e4, e2, by rw [e1, List.getElem?_map, List.getElem?_eq_getElem hl]; rfl, by rw [e3]; exact h1, fun m z hm hz => ?_, p.here rl rfl⟩
          rw [e1, List.getElem?_map, List.getElem?_eq_getElem (Nat.lt_trans hm hl)] at hz
          cases hz
          rw [e3]
          have := h2 m hm
          simpa using this
        · exact p.elim
      · exact p.elim
    · exact p.elim
  · exact p.elim
end
end Am
/-! ### Am: statements, loops -/
namespace Am
open PySem PySem.Spec PyProof.Rows L2
def PostO (c : Ctx) (w : Wd) (n : Nat) (W : WX) (D : Ends) : Out → Prop
  | .nx σa st => ∀ σ w' H', Ext w n w' st.length → Rel c w' σa st σ H' → D.nx σ H'
  | .bk σa st => ∀ σ w' H', Ext w n w' st.length → Rel c w' σa st σ H' → D.bk σ H'
  | .ct σa st => ∀ σ w' H', Ext w n w' st.length → Rel c w' σa st σ H' → D.ct σ H'
  | .rt a st => ∀ v w' H', Ext w n w' st.length → RelS c w' st H' → RA c w' st.length v a → D.rt v H'
  | .ex x σa st => ∀ σ cls d w' H', Ext w n w' st.length → Rel c w' σa st σ H' → RX c w' x cls d → W cls d σ H'
  | .no => False
def tMS (c : Ctx) (W : WX) (m : MS) : TS := fun D σ H => ∃ w σa st, Rel c w σa st σ H ∧ PostO c w st.length W D (m σa st)
theorem PostO.mono {c : Ctx} {w w1 : Wd} {n n1 : Nat} {W : WX} {D : Ends} (e : Ext w n w1 n1) : ∀ {o : Out}, PostO c w n W D o → PostO c w1 n1 W D o
  | .nx _ _, h => fun σ w' H' e' => h σ w' H' (e.trans e')
  | .bk _ _, h => fun σ w' H' e' => h σ w' H' (e.trans e')
  | .ct _ _, h => fun σ w' H' e' => h σ w' H' (e.trans e')
  | .rt _ _, h => fun v w' H' e' => h v w' H' (e.trans e')
  | .ex _ _ _, h => fun σ v d w' H' e' => h σ v d w' H' (e.trans e')
  | .no, h => h
/-- an expression, then a statement's rest -/
def lift {α : Type} (r : Res α) (σ : Slots) (k : α → Store → Out) : Out := match r with
  | .ok a st => k a st
  | .ex x st => .ex x σ st
  | .no => .no
theorem PostO.lift {α β : Type} {c : Ctx} {w : Wd} {n : Nat} {W : WX} {D : Ends} {σa : Slots} {σ : L2.St} {R : Wd → Nat → β → α → Prop} {Q : β → Hp → Prop} {k : α → Store → Out} :
    ∀ {r : Res α}, PostO c w n W D (lift r σa k) → (∀ v a st1 w1 H1, Ext w n w1 st1.length → Rel c w1 σa st1 σ H1 → R w1 st1.length v a → PostO c w1 st1.length W D (k a st1) → Q v H1) → Post c w n σa σ R W Q r
  | .ok a st, h, f => fun v w1 H1 e1 r1 ra => f v a st w1 H1 e1 r1 ra (PostO.mono e1 h)
  | .ex _ _, h, _ => fun cls d w' H' e r rx => h σ cls d w' H' e r rx
  | .no, h, _ => h
section
variable {c : Ctx} {w : Wd} {W : WX} {D : Ends} {σa : Slots} {st : Store} {σ : L2.St} {H : Hp}
theorem PostO.nxt (h : PostO c w st.length W D (.nx σa st)) (r : Rel c w σa st σ H) : D.nx σ H := h σ w H (Ext.refl _ _) r
theorem PostO.brk (h : PostO c w st.length W D (.bk σa st)) (r : Rel c w σa st σ H) : D.bk σ H := h σ w H (Ext.refl _ _) r
theorem PostO.cnt (h : PostO c w st.length W D (.ct σa st)) (r : Rel c w σa st σ H) : D.ct σ H := h σ w H (Ext.refl _ _) r
theorem PostO.ret {a : A} {v : V} (h : PostO c w st.length W D (.rt a st)) (r : RelS c w st H) (ra : RA c w st.length v a) : D.rt v H := h v w H (Ext.refl _ _) r ra
end
/-! targets -/
abbrev MG := A → Slots → Store → Option (Slots × Store)
def PostG (c : Ctx) (w : Wd) (n : Nat) (Q : L2.St → Hp → Prop) : Option (Slots × Store) → Prop
  | some (σa, st) => ∀ σ w' H', Ext w n w' st.length → Rel c w' σa st σ H' → Q σ H'
  | none => False
def tMG (c : Ctx) (g : MG) : TG := fun v σ H Q => ∃ w σa st a, Rel c w σa st σ H ∧ RA c w st.length v a ∧ PostG c w st.length Q (g a σa st)
abbrev MGs := List A → Slots → Store → Option (Slots × Store)
def tMGs (c : Ctx) (g : MGs) : TGs := fun vs σ H Q => ∃ w σa st as, Rel c w σa st σ H ∧ Paired (RA c w st.length) vs as ∧ PostG c w st.length Q (g as σa st)
def kName (i : Nat) : MG := fun a σ st => some (σ.set i (some a), st)
def kNil : MGs := fun as σ st => match as with
  | [] => some (σ, st)
  | _ => none
def kCons (g : MG) (gs : MGs) : MGs := fun as σ st => match as with
  | a :: r => match g a σ st with
    | some (σ1, st1) => gs r σ1 st1
    | none => none
  | [] => none
def kTup (gs : MGs) (n : Nat) : MG := fun a σ st => match viewT a with
  | some ds => if ds.length = n then gs (ds.map .d) σ st else none
  | none => none
/-- o[i] = v by values -/
noncomputable def gSet : A → A → A → Store → Option Store := fun o i v st => match o, i with
  | .c k, i => match st[k]? with
    | some (.lst xs) => match i with
      | .d (.int j) => match ixN xs.length j with
        | some n => some (st.set k (.lst (xs.set n v)))
        | none => none
      | _ => none
    | some (.dK xs) => match keyA i with
      | some y => ifc (xs.length < SZ) (some (st.set k (.dK (putA xs y v)))) none
      | none => none
    | some (.dT xs) => match keysT i with
      | some y => ifc (xs.length < SZ) (some (st.set k (.dT (putA xs y v)))) none
      | none => none
    | _ => none
  | _, _ => none
noncomputable def kSub (fo fi : ME) : MG := fun a σ st => match fo σ st with
  | .ok o st1 => match fi σ st1 with
    | .ok i st2 => match gSet o i a st2 with
      | some st3 => some (σ, st3)
      | none => none
    | _ => none
  | _ => none
def mSkip : MS := fun σ st => .nx σ st
def mBrk : MS := fun σ st => .bk σ st
def mCnt : MS := fun σ st => .ct σ st
def mSeq (m k : MS) : MS := fun σ st => match m σ st with
  | .nx σ1 st1 => k σ1 st1
  | o => o
def mDo (f : ME) : MS := fun σ st => lift (f σ st) σ fun _ st1 => .nx σ st1
def mRet (f : ME) : MS := fun σ st => lift (f σ st) σ fun a st1 => .rt a st1
def mRetN : MS := fun _ st => .rt (.d .non) st
def mIf (t : MT) (m k : MS) : MS := fun σ st => lift (t σ st) σ fun b st1 => if b then m σ st1 else k σ st1
def mAsg (f : ME) (g : MG) : MS := fun σ st => lift (f σ st) σ fun a st1 => match g a σ st1 with
  | some (σ2, st2) => .nx σ2 st2
  | none => .no
def mSet (i : Nat) (f : ME) : MS := fun σ st => lift (f σ st) σ fun a st1 => .nx (σ.set i (some a)) st1
/-- a, b = x, y -/
def mPar (i j : Nat) (fs : MA) : MS := fun σ st => lift (fs σ st) σ fun as st1 => match as with
  | [a, b] => .nx ((σ.set i (some a)).set j (some b)) st1
  | _ => .no
/-- x op= e -/
def mAug (i : Nat) (g : A → A → Store → Res A) (f : ME) : MS := fun σ st => match σ[i]? with
  | some (some x) => lift (f σ st) σ fun y st1 => lift (g x y st1) σ fun z st2 => .nx (σ.set i (some z)) st2
  | _ => .no
def gIxM : A → A → Store → Res A := fun x y st => match viewS st x with
  | some xs => match y with
    | .d (.int i) => match atI xs i with
      | some a => .ok a st
      | none => .no
    | _ => .no
  | none => match viewK st x with
    | some kvs => match keyA y with
      | some k => match lookK kvs k with
        | some a => .ok a st
        | none => .no
      | none => .no
    | none => .no
def rIxM (K : PySem.W.Frag) : R2 := fun x y H Q => rIxL K x y H Q ∨ rIxD x y H Q
theorem gIxM_ok {c : Ctx} : OpA c (rIxM c.K) gIxM := by
  intro w σa st σ H x y v u W Q rl rx ry p
  unfold gIxM at p
  split at p
  · rename_i hv
    obtain ⟨_, us, rfl, q, pr⟩ := viewS_ok rl.rs rx hv
    split at p
    · split at p
      · rename_i ha
        obtain ⟨z, e, r⟩ := paired_at pr ha
        exact .inl ⟨_, us, _, z, rfl, ry, q, e, p.here rl r⟩
      · exact p.elim
    · exact p.elim
  · split at p
    · rename_i hv
      obtain ⟨_, us, rfl, q, pr⟩ := viewK_ok rl.rs rx hv
      split at p
      · rename_i hk
        split at p
        · rename_i ha
          obtain ⟨z, e, r⟩ := (lookK_ok pr).2 _ ha
          have := keyA_ok ry hk
          subst this
          exact .inr ⟨_, z, rfl, by rw [← e]; exact dget_k q, p.here rl r⟩
        · exact p.elim
      · exact p.elim
    · exact p.elim
noncomputable def mAugS (g : A → A → Store → Res A) (fo fi f : ME) : MS := fun σ st => lift (fo σ st) σ fun o st1 => lift (fi σ st1) σ fun i st2 => lift (gIxM o i st2) σ fun x st3 => lift (f σ st3) σ fun y st4 => lift (g x y st4) σ fun z st5 => match gSet o i z st5 with
  | some st6 => .nx σ st6
  | none => .no
section
variable {X : Cx} {c : Ctx} {W : WX} {e a b o i tg : Expr} {es : List Expr} {s : Stmt} {ss : List Stmt} {f fo fi : ME} {t : MT} {m k : MS} {g : MG} {gs : MGs} {fs : MA} {pos pos' : Pos} {n : Nat}
theorem s_nil : PSs X [] (tMS c W mSkip) := pss_imp pss_nil fun _ _ _ ⟨_, _, _, rl, p⟩ => p.nxt rl
theorem s_pass : PS X (.Pass pos) (tMS c W mSkip) := ps_imp ps_pass fun _ _ _ ⟨_, _, _, rl, p⟩ => p.nxt rl
theorem s_brk : PS X (.Break pos) (tMS c W mBrk) := ps_imp ps_break fun _ _ _ ⟨_, _, _, rl, p⟩ => p.brk rl
theorem s_cnt : PS X (.Continue pos) (tMS c W mCnt) := ps_imp ps_continue fun _ _ _ ⟨_, _, _, rl, p⟩ => p.cnt rl
theorem s_doc {x j} : PS X (.Expr (.Constant (.str x) j pos) pos') (tMS c W mSkip) := ps_imp ps_doc fun _ _ _ ⟨_, _, _, rl, p⟩ => p.nxt rl
theorem s_one (h : PS X s (tMS c W m)) : PSs X [s] (tMS c W m) := pss_one h
theorem s_cons (h : PS X s (tMS c W m)) (h2 : PSs X ss (tMS c W k)) : PSs X (s :: ss) (tMS c W (mSeq m k)) := pss_imp (pss_cons h h2) fun D σ H ⟨w, σa, st, rl, p⟩ => by
  refine ⟨w, σa, st, rl, ?_⟩
  unfold mSeq at p
  split at p
  · rename_i h
    rw [h]
    exact fun σ' w' H' e r => ⟨w', _, _, r, PostO.mono e p⟩
  · rename_i h
    cases ho : m σa st with
    | nx σ1 st1 => exact absurd ho (h σ1 st1)
    | _ => rw [ho] at p; exact p
theorem s_do (h : PE X e (tM c W f)) (hs : swapsWith e none pos.line X.env = pure false := by rfl) : PS X (.Expr e pos) (tMS c W (mDo f)) := ps_imp (ps_expr h hs) fun D σ H ⟨w, σa, st, rl, p⟩ =>
  ⟨w, σa, st, rl, PostO.lift p fun _ _ _ _ _ _ rl1 _ p1 => p1.nxt rl1⟩
theorem s_ret (h : PE X e (tM c W f)) : PS X (.Return (some e) pos) (tMS c W (mRet f)) := ps_imp (ps_ret h) fun D σ H ⟨w, σa, st, rl, p⟩ =>
  ⟨w, σa, st, rl, PostO.lift p fun _ _ _ _ _ _ rl1 r p1 => p1.ret rl1.rs r⟩
theorem s_retN : PS X (.Return none pos) (tMS c W mRetN) := ps_imp ps_retN fun D σ H ⟨w, σa, st, rl, p⟩ => PostO.ret (a := .d .non) p rl.rs rfl
theorem s_if {q r : List Stmt} (h : PT X e (tT c W t)) (h1 : PSs X q (tMS c W m)) (h2 : PSs X r (tMS c W k)) : PS X (.If e q r pos) (tMS c W (mIf t m k)) := ps_imp (ps_if h h1 h2) fun D σ H ⟨w, σa, st, rl, p⟩ =>
  ⟨w, σa, st, rl, PostO.lift p fun b b' _ _ _ _ rl1 r p1 => by
    subst r
    cases b with
    | true => exact iteT ⟨_, _, _, rl1, p1⟩
    | false => exact iteF ⟨_, _, _, rl1, p1⟩⟩
theorem s_set {j : Nat} {x : Str} (hN : X.N.Nodup) (hi : X.N[j]? = some x) (hx : Loc X.env.scope x) (h : PE X e (tM c W f)) (hs : swapsWith e (some (.Name x pos')) pos.line X.env = pure false := by rfl) (hf : X.fn x = true ∨ X.env.scope.names.lookup x = some .local := by first | exact .inl rfl | exact .inr rfl | assumption) :
    PS X (.Assign [.Name x pos'] e pos) (tMS c W (mSet j f)) := ps_imp (ps_set hN hi hx h hs hf) fun D σ H ⟨w, σa, st, rl, p⟩ => ⟨w, σa, st, rl, PostO.lift p fun _ _ _ _ _ _ rl1 r p1 => p1.nxt (rl1.set r)⟩
theorem g_name {j : Nat} {x : Str} (hN : X.N.Nodup) (hi : X.N[j]? = some x) (hx : Loc X.env.scope x) (hf : X.fn x = true ∨ X.env.scope.names.lookup x = some .local := by first | exact .inl rfl | exact .inr rfl | assumption) : PG X (.Name x pos) (tMG c (kName j)) :=
  ⟨fun pins s σ H v u Q I r ⟨w, σa, st, a, rl, ra, p⟩ => (pg_name hN hi hx hf).run pins s σ H v u Q I r (p _ w H (Ext.refl _ _) (rl.set ra))⟩
theorem gs_nil : PGs X [] (tMGs c kNil) := ⟨fun pins s σ H vs us Q I r ⟨w, σa, st, as, rl, ra, p⟩ => pgs_nil.run pins s σ H vs us Q I r (by
  unfold kNil at p
  split at p
  · cases ra; exact ⟨rfl, p _ w H (Ext.refl _ _) rl⟩
  · exact p.elim)⟩
theorem gs_cons (h1 : PG X e (tMG c g)) (h2 : PGs X es (tMGs c gs)) (hs : (assignEach (e :: es) X.env).map (·.2) = assign e X.env :: (assignEach es X.env).map (·.2) := by rfl) : PGs X (e :: es) (tMGs c (kCons g gs)) :=
  ⟨fun pins s σ H vs us Q I r ⟨w, σa, st, as, rl, ra, p⟩ => (pgs_cons h1 h2 hs).run pins s σ H vs us Q I r (by
    unfold kCons at p
    split at p
    · cases ra with
      | cons r1 rr =>
        refine ⟨_, _, rfl, w, σa, st, _, rl, r1, ?_⟩
        split at p
        · rename_i hg
          rw [hg]
          exact fun σ' w' H' e r' => ⟨w', _, _, _, r', ras_ext e rr, by
            revert p
            generalize gs _ _ _ = y
            intro p
            cases y with
            | none => exact p
            | some y => exact fun σ2 w2 H2 e2 => p σ2 w2 H2 (e.trans e2)⟩
        · exact p.elim
    · exact p.elim)⟩
theorem g_tup {kk nn : Nat} (hc : X.calm = true) (h : PGs X es (tMGs c gs)) (F : Fits X c := by exact ⟨rfl, rfl⟩) (hn : (assignEach es X.env).length = nn := by rfl) (hst : (assignEach es X.env).findIdx? (·.1) = none := by rfl) : PG X (.Tuple es kk pos) (tMG c (kTup gs nn)) :=
  ⟨fun pins s σ H v u Q I r ⟨w, σa, st, a, rl, ra, p⟩ => (pg_tup hc h hn hst).run pins s σ H v u Q I r (by
    unfold kTup at p
    split at p
    · rename_i hv
      obtain ⟨b, vs, rfl, q, pr⟩ := viewT_ok rl.rs ra hv
      split at p
      · rename_i hl
        exact ⟨b, vs, rfl, by rw [F.K]; exact q, by rw [pr.pair.length]; exact hl, w, σa, st, _, rl, ras_d pr, p⟩
      · exact p.elim
    · exact p.elim)⟩
def rSetD : V → V → V → Hp → (Hp → Prop) → Prop := fun o i v H Q => ∃ a H', o = .ref a ∧ DPut H a i v H' ∧ Q H'
def rSetAll : V → V → V → Hp → (Hp → Prop) → Prop := fun o i v H Q => rSetL o i v H Q ∨ rSetD o i v H Q
theorem set_all (hr : Room n X.A) : PSet X rSetAll := by
  intro pins s σ H o i v ov iv u Q I ro ri rv h
  rcases h with h | ⟨a, H', rfl, g, q⟩
  · exact set_list pins s σ H o i v ov iv u Q I ro ri rv h
  · obtain rfl : ov = Value.ref a := ro
    exact d_setItem (hu_of hr) I g ri rv fun s4 I4 => ⟨H', I4, q⟩
theorem gSet_ok {w : Wd} {σa : Slots} {st st' : Store} {σ : L2.St} {H : Hp} {o i a : A} {vo vi v : V} {Q : Hp → Prop} (rl : Rel c w σa st σ H) (ro : RA c w st.length vo o) (ri : RA c w st.length vi i) (ra : RA c w st.length v a) (h : gSet o i a st = some st')
    (q : ∀ H', Ext w st.length w st'.length → Rel c w σa st' σ H' → Q H') : rSetAll vo vi v H Q := by
  unfold gSet at h
  simp only [ifc] at h
  split at h
  · split at h
    · rename_i hk
      obtain ⟨g, us, e, pr⟩ := rl.rs.cell _ _ hk
      split at h
      · split at h
        · rename_i hx
          cases h
          exact .inl ⟨_, us, _, _, ro.2, ri, e, by rw [pr.length]; exact hx, q _ (by rw [List.length_set]; exact Ext.refl _ _) (rl.write hk g ⟨g, _, upd_same, paired_set ra _ pr⟩)⟩
        · cases h
      · cases h
    · rename_i hk
      obtain ⟨g, us, e, pr⟩ := rl.rs.cell _ _ hk
      split at h
      · rename_i hy
        split at h
        · rename_i hl
          cases h
          have := keyA_ok ri hy
          subst this
          exact .inr ⟨_, _, ro.2, .k e (by rw [pr.length]; exact Nat.lt_of_lt_of_le hl (by decide)), q _ (by rw [List.length_set]; exact Ext.refl _ _) (rl.write hk g ⟨g, _, upd_same, putA_ok ra pr⟩)⟩
        · cases h
      · cases h
    · rename_i hk
      obtain ⟨g, us, e, pr⟩ := rl.rs.cell _ _ hk
      split at h
      · rename_i hy
        split at h
        · rename_i hl
          cases h
          obtain ⟨b, rfl, eb⟩ := keysT_ok rl.rs.same ri hy
          exact .inr ⟨_, _, ro.2, .t e eb (by rw [pr.length]; exact Nat.lt_of_lt_of_le hl (by decide)), q _ (by rw [List.length_set]; exact Ext.refl _ _) (rl.write hk g ⟨g, _, upd_same, putA_ok ra pr⟩)⟩
        · cases h
      · cases h
    · cases h
  · cases h
theorem g_sub (hr : Room n X.A) (ho : PE X o (tM c W fo)) (hi : PE X i (tM c W fi))
    (ha : ∀ v, assign (.Subscript o i pos) X.env v = (do
      let ov ← holding [v] (eval o X.env)
      let iv ← holding [v, ov] (eval i X.env)
      standAt pos
      holding [v, ov, iv] (setItem ov iv v)
      release [v, ov, iv] []) := by intro _; rfl) : PG X (.Subscript o i pos) (tMG c (kSub fo fi)) :=
  ⟨fun pins s σ H v u Q I r ⟨w, σa, st, a, rl, ra, p⟩ => (pg_sub ho hi (set_all hr) ha).run pins s σ H v u Q I r (by
    unfold kSub at p
    cases h1 : fo σa st with
    | no => rw [h1] at p; exact p.elim
    | ex _ _ => rw [h1] at p; exact p.elim
    | ok y st1 =>
      rw [h1] at p
      refine ⟨w, σa, st, rl, ?_⟩
      rw [h1]
      intro vo w1 H1 e1 rl1 r1
      have p : PostG c w st.length Q (match fi σa st1 with | .ok i st2 => (match gSet y i a st2 with | some st3 => some (σa, st3) | none => none) | _ => none) := p
      cases h2 : fi σa st1 with
      | no => rw [h2] at p; exact p.elim
      | ex _ _ => rw [h2] at p; exact p.elim
      | ok j st2 =>
        rw [h2] at p
        refine ⟨w1, σa, st1, rl1, ?_⟩
        rw [h2]
        intro vi w2 H2 e2 rl2 r2
        have p : PostG c w st.length Q (match gSet y j a st2 with | some st3 => some (σa, st3) | none => none) := p
        cases h3 : gSet y j a st2 with
        | none => rw [h3] at p; exact p.elim
        | some st3 =>
          rw [h3] at p
          exact gSet_ok rl2 (r1.ext e2) r2 ((ra.ext e1).ext e2) h3 fun H3 e3 rl3 => p _ w2 H3 ((e1.trans e2).trans e3) rl3)⟩
theorem s_asg (h : PE X e (tM c W f)) (hg : PG X tg (tMG c g)) (hs : swapsWithSole [tg] e pos.line X.env = pure false := by rfl) (hw : swappedStores [tg] e X.env = pure none := by rfl)
    (h1 : (assignEach [tg] X.env).map (·.2) = [assign tg X.env] := by rfl) : PS X (.Assign [tg] e pos) (tMS c W (mAsg f g)) := ps_imp (ps_asg h hg hs hw h1) fun D σ H ⟨w, σa, st, rl, p⟩ =>
  ⟨w, σa, st, rl, PostO.lift p fun v a st1 w1 H1 _ rl1 r p1 => ⟨w1, σa, st1, a, rl1, r, by
    split at p1
    · rename_i hg
      rw [hg]
      exact p1
    · exact p1.elim⟩⟩
theorem s_par {i j : Nat} {x y : Str} {px py pt : Pos} {kt k2 pt2} (hc : X.calm = true) (hN : X.N.Nodup) (hi : X.N[i]? = some x) (hj : X.N[j]? = some y) (hij : i ≠ j)
    (hx : X.env.scope.names.lookup x = some .local) (hy : X.env.scope.names.lookup y = some .local) (ha : PA X [a, b] (tMA c W fs))
    (hw : swappedStores [.Tuple [.Name x px, .Name y py] kt pt] (.Tuple [a, b] k2 pt2) X.env = pure (some [x, y]) := by rfl)
    (hs : swapsWithSole [.Tuple [.Name x px, .Name y py] kt pt] (.Tuple [a, b] k2 pt2) pos.line X.env = pure false := by rfl) :
    PS X (.Assign [.Tuple [.Name x px, .Name y py] kt pt] (.Tuple [a, b] k2 pt2) pos) (tMS c W (mPar i j fs)) := ps_imp (ps_par hc hN hi hj hij hx hy ha hw hs) fun D σ H ⟨w, σa, st, rl, p⟩ =>
  ⟨w, σa, st, rl, PostO.lift p fun vs as st1 w1 H1 _ rl1 r p1 => by
    split at p1
    · obtain ⟨u, v, rfl, ru, rv⟩ := pr2 r
      exact ⟨u, v, rfl, p1.nxt ((rl1.set ru).set rv)⟩
    · exact p1.elim⟩
theorem s_aug {j : Nat} {x : Str} {op : Operator} {r : R2} {gg : A → A → Store → Res A} (hN : X.N.Nodup) (hi : X.N[j]? = some x) (hx : Loc X.env.scope x) (h : PE X e (tM c W f)) (ho : PIp X op r) (hg : OpA c r gg) (hf : X.fn x = true ∨ X.env.scope.names.lookup x = some .local := by first | exact .inl rfl | exact .inr rfl | assumption) :
    PS X (.AugAssign (.Name x pos') op e pos) (tMS c W (mAug j gg f)) := ps_imp (ps_aug hN hi hx h ho hf) fun D σ H ⟨w, σa, st, rl, p⟩ => by
  unfold mAug at p
  split at p
  · rename_i a hj
    obtain ⟨v, e1, ra⟩ := rl.sl j a hj
    refine ⟨v, e1, w, σa, st, rl, PostO.lift p fun u y st1 w1 H1 e1 rl1 ry p1 => ?_⟩
    exact hg w1 σa st1 σ H1 a y v u W _ rl1 (ra.ext e1) ry (PostO.lift p1 fun z z' st2 w2 H2 _ rl2 rz p2 => p2.nxt (rl2.set rz))
  · exact p.elim
theorem get_ixM (hr : Room n X.A) (F : Fits X c) : PGet X (rIxM c.K) := by
  rw [← F.K]
  intro pins s σ H o i ov iv Q I ro ri h
  rcases h with h | ⟨a, v, rfl, g, q⟩
  · exact Rw.get_list pins s σ H o i ov iv Q I ro ri h
  · obtain rfl : ov = Value.ref a := ro
    exact d_getItem (hu_of hr) I g ri fun w' s4 I4 r4 => ⟨v, H, I4, r4, q⟩
theorem s_augS {op : Operator} {r : R2} {gg : A → A → Store → Res A} {tpos : Pos} (hr : Room n X.A) (ho : PE X o (tM c W fo)) (hi : PE X i (tM c W fi)) (h : PE X e (tM c W f)) (hp : PIp X op r) (hg : OpA c r gg) (F : Fits X c)
    (ha : ∀ ov iv new, augStore i ov iv new = (do holding [new, ov, iv] (setItem ov iv new); release [new, ov, iv] []; pure .next) := by intros; rfl) (get : PGet X (rIxM c.K) := by exact get_ixM (by assumption) ⟨rfl, rfl⟩) : PS X (.AugAssign (.Subscript o i tpos) op e pos) (tMS c W (mAugS gg fo fi f)) :=
  ps_imp (ps_augS ho hi get h hp (set_all hr) ha) fun D σ H ⟨w, σa, st, rl, p⟩ => ⟨w, σa, st, rl, PostO.lift p fun vo yo st1 w1 H1 e1 rl1 ro p1 => ⟨w1, σa, st1, rl1, PostO.lift p1 fun vi yi st2 w2 H2 e2 rl2 ri p2 =>
    gIxM_ok w2 σa st2 σ H2 yo yi vo vi W _ rl2 (ro.ext e2) ri (PostO.lift p2 fun vx x st3 w3 H3 e3 rl3 rx p3 => ⟨w3, σa, st3, rl3, PostO.lift p3 fun vy y st4 w4 H4 e4 rl4 ry p4 =>
      hg w4 σa st4 σ H4 x y vx vy W _ rl4 (rx.ext e4) ry (PostO.lift p4 fun vz z st5 w5 H5 e5 rl5 rz p5 => by
        split at p5
        · rename_i st6 hs
          have ex := (e3.trans e4).trans e5
          exact gSet_ok rl5 ((ro.ext e2).ext ex) (ri.ext ex) rz hs fun H6 e6 rl6 => p5 _ w5 H6 e6 rl6
        · exact p5.elim)⟩)⟩⟩
end
end Am
/-! ### Am: loops, comprehensions -/
namespace Am
open PySem PySem.Spec PyProof.Rows L2
open Classical in
noncomputable def needO (p : Prop) (o : Out) : Out := if p then o else .no
theorem needO_pos {p : Prop} {o : Out} (h : p) : needO p o = o := if_pos h
theorem PostO.need {c : Ctx} {w : Wd} {n : Nat} {W : WX} {D : Ends} {p : Prop} {o : Out} (h : PostO c w n W D (needO p o)) : p ∧ PostO c w n W D o := by
  unfold needO at h
  by_cases q : p
  · rw [if_pos q] at h; exact ⟨q, h⟩
  · rw [if_neg q] at h; exact h.elim
/-! ### cells that are forgotten -/
def ABelow (n : Nat) : A → Prop
  | .d _ => True
  | .c i => i < n
def CBelow (n : Nat) : Cell → Prop
  | .lst xs => ∀ a ∈ xs, ABelow n a
  | .dK xs => ∀ p ∈ xs, ABelow n p.2
  | .dT xs => ∀ p ∈ xs, ABelow n p.2
  | .ins _ xs => ∀ p ∈ xs, ABelow n p.2
  | .fz _ => True
/-- the cells from st.length on may be forgotten -/
def Trunc (st st2 : Store) : Prop := st.length ≤ st2.length ∧ ∀ i, i < st.length → st2[i]? = st[i]? ∨ ∃ x, st2[i]? = some x ∧ CBelow st.length x
def keepA (n : Nat) : Option A → Option A
  | some (.c i) => if i < n then some (.c i) else none
  | x => x
section
variable {c : Ctx} {w w2 : Wd} {n n2 : Nat} {σa : Slots} {st st2 : Store} {σ : L2.St} {H H2 : Hp} {W : WX}
theorem RA.cut {v : V} : ∀ {a : A}, RA c w n2 v a → ABelow n a → RA c w n v a
  | .d _, h, _ => h
  | .c _, ⟨_, e⟩, h => ⟨h, e⟩
theorem ras_cut {vs : List V} {as : List A} (h : Paired (RA c w n2) vs as) : (∀ a ∈ as, ABelow n a) → Paired (RA c w n) vs as := by
  induction h with
  | nil => exact fun _ => .nil
  | @cons v a vs as r _ ih => exact fun b => .cons (r.cut (b a List.mem_cons_self)) (ih fun x hx => b x (List.mem_cons_of_mem _ hx))
theorem kas_cut {κ : Type} {vs : List (κ × V)} {as : List (κ × A)} (h : Paired (KD (RA c w n2)) vs as) : (∀ p ∈ as, ABelow n p.2) → Paired (KD (RA c w n)) vs as := by
  induction h with
  | nil => exact fun _ => .nil
  | @cons v a vs as r _ ih => exact fun b => .cons ⟨r.1, r.2.cut (b a List.mem_cons_self)⟩ (ih fun x hx => b x (List.mem_cons_of_mem _ hx))
theorem CR.cut {a : Addr} : ∀ {x : Cell}, CR c w n2 H a x → CBelow n x → CR c w n H a x
  | .lst _, ⟨g, vs, h, p⟩, b => ⟨g, vs, h, ras_cut p b⟩
  | .dK _, ⟨g, vs, h, p⟩, b => ⟨g, vs, h, kas_cut p b⟩
  | .dT _, ⟨g, vs, h, p⟩, b => ⟨g, vs, h, kas_cut p b⟩
  | .ins _ _, ⟨g, C, dx, us, h, m, p⟩, b => ⟨g, C, dx, us, h, m, kas_cut p b⟩
  | .fz _, h, _ => h
theorem ABelow.of {v : V} : ∀ {a : A}, RA c w n v a → ABelow n a
  | .d _, _ => trivial
  | .c _, h => h.1
theorem paired_all {α β : Type} {F : α → β → Prop} {l₁ : List α} {l₂ : List β} (h : Paired F l₁ l₂) : ∀ b ∈ l₂, ∃ a, F a b := by
  induction h with
  | nil => exact fun b hb => nomatch hb
  | cons r _ ih => exact fun b hb => (List.mem_cons.mp hb).elim (fun e => by subst e; exact ⟨_, r⟩) (ih b)
theorem CBelow.of {a : Addr} : ∀ {x : Cell}, CR c w n H a x → CBelow n x
  | .lst _, ⟨_, _, _, p⟩ => fun b hb => let ⟨_, r⟩ := paired_all p b hb; ABelow.of r
  | .dK _, ⟨_, _, _, p⟩ => fun b hb => let ⟨_, r⟩ := paired_all p b hb; ABelow.of r.2
  | .dT _, ⟨_, _, _, p⟩ => fun b hb => let ⟨_, r⟩ := paired_all p b hb; ABelow.of r.2
  | .ins _ _, ⟨_, _, _, _, _, _, p⟩ => fun b hb => let ⟨_, r⟩ := paired_all p b hb; ABelow.of r.2
  | .fz _, _ => trivial
theorem RelS.trunc (r0 : RelS c w st H) (r : RelS c w2 st2 H2) (t : Trunc st st2) : RelS c w2 (st2.take st.length) H2 where
  same := r.same
  inj := fun i j hi hj => by
    rw [List.length_take] at hi hj
    exact r.inj i j (by omega) (by omega)
  cell := fun i x h => by
    have hl := RelS.lt h
    rw [List.length_take] at hl ⊢
    have e : min st.length st2.length = st.length := Nat.min_eq_left t.1
    rw [e] at hl ⊢
    rw [List.getElem?_take_of_lt hl] at h
    refine (r.cell i x h).cut ?_
    rcases t.2 i hl with q | ⟨y, q, b⟩
    · rw [q] at h
      exact CBelow.of (r0.cell i x h)
    · rw [q] at h
      cases h
      exact b
theorem Ext.cut (e : Ext w st.length w2 st2.length) (t : Trunc st st2) : Ext w st.length w2 (st2.take st.length).length := ⟨e.same, e.cells, by rw [List.length_take]; have := t.1; omega⟩
theorem take_len (t : Trunc st st2) : (st2.take st.length).length = st.length := by rw [List.length_take]; have := t.1; omega
theorem Rel.trunc (r0 : RelS c w st H) (r : Rel c w2 σa st2 σ H2) (t : Trunc st st2) : Rel c w2 (σa.map (keepA st.length)) (st2.take st.length) σ H2 :=
  ⟨r0.trunc r.rs t, by rw [List.length_map]; exact r.len, fun i a h => by
    rw [List.getElem?_map] at h
    obtain ⟨y, h1, h2⟩ := Option.map_eq_some_iff.mp h
    rw [take_len t]
    cases y with
    | none => cases h2
    | some b =>
      obtain ⟨v, e, ra⟩ := r.sl i b h1
      cases b with
      | d x => cases h2; exact ⟨v, e, ra⟩
      | c j =>
        have h2 : (if j < st.length then some (A.c j) else none) = some a := h2
        split at h2
        · rename_i hj
          cases h2
          exact ⟨v, e, hj, ra.2⟩
        · cases h2⟩
end
/-- behind a turn: the cells that it made are forgotten -/
noncomputable def mTrunc (m : MS) : MS := fun σ st => match m σ st with
  | .nx σ1 st1 => needO (Trunc st st1) (.nx (σ1.map (keepA st.length)) (st1.take st.length))
  | .ct σ1 st1 => needO (Trunc st st1) (.ct (σ1.map (keepA st.length)) (st1.take st.length))
  | .bk σ1 st1 => needO (Trunc st st1) (.bk (σ1.map (keepA st.length)) (st1.take st.length))
  | o => o
theorem s_trunc {X : Cx} {c : Ctx} {W : WX} {ss : List Stmt} {m : MS} (h : PSs X ss (tMS c W m)) : PSs X ss (tMS c W (mTrunc m)) := pss_imp h fun D σ H ⟨w, σa, st, rl, p⟩ => by
  refine ⟨w, σa, st, rl, ?_⟩
  unfold mTrunc at p
  cases ho : m σa st with
  | nx σ1 st1 =>
    rw [ho] at p
    obtain ⟨t, p⟩ := PostO.need p
    exact fun σ' w' H' e r => p σ' w' H' (e.cut t) (Rel.trunc rl.rs r t)
  | ct σ1 st1 =>
    rw [ho] at p
    obtain ⟨t, p⟩ := PostO.need p
    exact fun σ' w' H' e r => p σ' w' H' (e.cut t) (Rel.trunc rl.rs r t)
  | bk σ1 st1 =>
    rw [ho] at p
    obtain ⟨t, p⟩ := PostO.need p
    exact fun σ' w' H' e r => p σ' w' H' (e.cut t) (Rel.trunc rl.rs r t)
  | rt _ _ => rw [ho] at p; exact p
  | ex _ _ _ => rw [ho] at p; exact p
  | no => rw [ho] at p; exact p
/-! ### while -/
def whileN (t : MT) (b : MS) : Nat → Slots → Store → Out
  | 0, _, _ => .no
  | n + 1, σ, st => lift (t σ st) σ fun k st1 => if k then match b σ st1 with
      | .nx σ2 st2 => whileN t b n σ2 st2
      | .ct σ2 st2 => whileN t b n σ2 st2
      | .bk σ2 st2 => .nx σ2 st2
      | o => o
    else .nx σ st1
theorem whileN_s {t : MT} {b : MS} (n : Nat) (σ : Slots) (st : Store) : whileN t b (n + 1) σ st = lift (t σ st) σ fun k st1 => if k then match b σ st1 with
      | .nx σ2 st2 => whileN t b n σ2 st2
      | .ct σ2 st2 => whileN t b n σ2 st2
      | .bk σ2 st2 => .nx σ2 st2
      | o => o
    else .nx σ st1 := rfl
open Classical in
noncomputable def mWhile (t : MT) (b : MS) : MS := fun σ st => if h : ∃ n, whileN t b n σ st ≠ .no then whileN t b (choose h) σ st else .no
theorem whileN_up {t : MT} {b : MS} : ∀ {n : Nat} {σ : Slots} {st : Store}, whileN t b n σ st ≠ .no → whileN t b (n + 1) σ st = whileN t b n σ st
  | 0, _, _, h => absurd rfl h
  | n + 1, σ, st, h => by
    rw [whileN_s (n + 1), whileN_s n]
    rw [whileN_s] at h
    cases ht : t σ st with
    | no => rfl
    | ex _ _ => rfl
    | ok k st1 =>
      rw [ht] at h
      simp only [lift] at h ⊢
      cases k with
      | false => rfl
      | true =>
        simp only [if_true] at h ⊢
        cases hb : b σ st1 with
        | nx σ2 st2 => rw [hb] at h; exact whileN_up h
        | ct σ2 st2 => rw [hb] at h; exact whileN_up h
        | _ => rfl
theorem whileN_le {t : MT} {b : MS} {n m : Nat} {σ : Slots} {st : Store} (h : whileN t b n σ st ≠ .no) (l : n ≤ m) : whileN t b m σ st = whileN t b n σ st := by
  induction l with
  | refl => rfl
  | step _ ih => rw [whileN_up (by rw [ih]; exact h), ih]
theorem mWhile_of {t : MT} {b : MS} {n : Nat} {σ : Slots} {st : Store} {o : Out} (h : whileN t b n σ st = o) (ho : o ≠ .no) : mWhile t b σ st = o := by
  unfold mWhile
  have hh : ∃ n, whileN t b n σ st ≠ .no := ⟨n, by rw [h]; exact ho⟩
  rw [dif_pos hh]
  have h1 := Classical.choose_spec hh
  rcases Nat.le_total n (Classical.choose hh) with l | l
  · rw [whileN_le (by rw [h]; exact ho) l, h]
  · rw [← whileN_le h1 l, h]
theorem mWhile_ex {t : MT} {b : MS} {σ : Slots} {st : Store} (h : mWhile t b σ st ≠ .no) : ∃ n, whileN t b n σ st = mWhile t b σ st := by
  unfold mWhile at h ⊢
  by_cases hh : ∃ n, whileN t b n σ st ≠ .no
  · rw [dif_pos hh]; exact ⟨_, rfl⟩
  · rw [dif_neg hh] at h; exact absurd rfl h
/-- one turn -/
theorem mWhile_eq (t : MT) (b : MS) (σ : Slots) (st : Store) : mWhile t b σ st = lift (t σ st) σ fun k st1 => if k then match b σ st1 with
      | .nx σ2 st2 => mWhile t b σ2 st2
      | .ct σ2 st2 => mWhile t b σ2 st2
      | .bk σ2 st2 => .nx σ2 st2
      | o => o
    else .nx σ st1 := by
  have key : ∀ o, (lift (t σ st) σ fun k st1 => if k then match b σ st1 with
      | .nx σ2 st2 => mWhile t b σ2 st2
      | .ct σ2 st2 => mWhile t b σ2 st2
      | .bk σ2 st2 => .nx σ2 st2
      | o => o
    else .nx σ st1) = o → o ≠ .no → ∃ n, whileN t b n σ st = o := by
    intro o h ho
    cases ht : t σ st with
    | no => rw [ht] at h; exact absurd h.symm ho
    | ex x s => rw [ht] at h; exact ⟨1, by rw [whileN_s, ht]; exact h⟩
    | ok k st1 =>
      rw [ht] at h
      simp only [lift] at h
      cases k with
      | false => exact ⟨1, by rw [whileN_s, ht]; exact h⟩
      | true =>
        simp only [if_true] at h
        cases hb : b σ st1 with
        | nx σ2 st2 =>
          rw [hb] at h
          obtain ⟨n, hn⟩ := mWhile_ex (t := t) (b := b) (σ := σ2) (st := st2) (fun z => ho (h.symm.trans z))
          exact ⟨n + 1, by rw [whileN_s, ht]; simp only [lift, if_true, hb]; rw [hn]; exact h⟩
        | ct σ2 st2 =>
          rw [hb] at h
          obtain ⟨n, hn⟩ := mWhile_ex (t := t) (b := b) (σ := σ2) (st := st2) (fun z => ho (h.symm.trans z))
          exact ⟨n + 1, by rw [whileN_s, ht]; simp only [lift, if_true, hb]; rw [hn]; exact h⟩
        | bk σ2 st2 => rw [hb] at h; exact ⟨1, by rw [whileN_s, ht]; simp only [lift, if_true, hb]; exact h⟩
        | rt a s => rw [hb] at h; exact ⟨1, by rw [whileN_s, ht]; simp only [lift, if_true, hb]; exact h⟩
        | ex a s s2 => rw [hb] at h; exact ⟨1, by rw [whileN_s, ht]; simp only [lift, if_true, hb]; exact h⟩
        | no => rw [hb] at h; exact absurd h.symm ho
  generalize hg : (lift (t σ st) σ fun k st1 => if k then match b σ st1 with
      | .nx σ2 st2 => mWhile t b σ2 st2
      | .ct σ2 st2 => mWhile t b σ2 st2
      | .bk σ2 st2 => .nx σ2 st2
      | o => o
    else .nx σ st1) = o
  by_cases ho : o = .no
  · subst ho
    apply Classical.byContradiction
    intro hne
    obtain ⟨n, hn⟩ := mWhile_ex hne
    cases n with
    | zero => rw [whileN] at hn; exact hne hn.symm
    | succ n =>
      rw [← hn] at hne
      rw [whileN_s] at hne
      apply hne
      rw [← hg]
      cases ht : t σ st with
      | no => rfl
      | ex x s => rfl
      | ok k st1 =>
        rw [ht] at hne hg
        simp only [lift] at hne hg ⊢
        cases k with
        | false => rfl
        | true =>
          simp only [if_true] at hne hg ⊢
          cases hb : b σ st1 with
          | nx σ2 st2 => rw [hb] at hne; exact (mWhile_of rfl hne).symm
          | ct σ2 st2 => rw [hb] at hne; exact (mWhile_of rfl hne).symm
          | _ => rfl
  · obtain ⟨n, hn⟩ := key o hg ho
    exact mWhile_of hn ho
section
variable {X : Cx} {c : Ctx} {W : WX} {e tg iter elt : Expr} {body : List Stmt} {t : MT} {b : MS} {pos : Pos}
theorem s_while (hp : PassesOwn (model X.prog X.w) X.A X.env X.xe) (ht : PT X e (tT c W t)) (hb : PSs X body (tMS c W b)) : PS X (.While e body [] pos) (tMS c W (mWhile t b)) := ps_imp (ps_while hp ht hb) fun D σ H ⟨w, σa, st, rl, p⟩ => by
  have hne : mWhile t b σa st ≠ .no := fun z => by rw [z] at p; exact p
  obtain ⟨n, hn⟩ := mWhile_ex hne
  rw [← hn] at p
  refine ⟨fun m σ H => ∃ w' σa' st', Rel c w' σa' st' σ H ∧ PostO c w' st'.length W D (whileN t b m σa' st'), ⟨n, w, σa, st, rl, p⟩, ?_⟩
  rintro m σ1 H1 ⟨w1, σa1, st1, rl1, p1⟩
  cases m with
  | zero => exact p1.elim
  | succ m =>
    rw [whileN_s] at p1
    refine ⟨w1, σa1, st1, rl1, PostO.lift p1 fun k k' st2 w2 H2 e2 rl2 r p2 => ?_⟩
    subst r
    cases k with
    | false => exact iteF (PostO.nxt p2 rl2)
    | true =>
      refine iteT ⟨fun σ' H' => ∃ w' σa' st', Rel c w' σa' st' σ' H' ∧ PostO c w' st'.length W D (whileN t b m σa' st'), fun σ' H' q => ⟨m, Nat.lt_succ_self m, q⟩, w2, σa1, st2, rl2, ?_⟩
      simp only [if_true] at p2
      cases hb : b σa1 st2 with
      | nx σ3 st3 => rw [hb] at p2; exact fun σ' w' H' e r => ⟨w', σ3, st3, r, PostO.mono e p2⟩
      | ct σ3 st3 => rw [hb] at p2; exact fun σ' w' H' e r => ⟨w', σ3, st3, r, PostO.mono e p2⟩
      | bk σ3 st3 => rw [hb] at p2; exact p2
      | rt _ _ => rw [hb] at p2; exact p2
      | ex _ _ _ => rw [hb] at p2; exact p2
      | no => rw [hb] at p2; exact p2
end
/-! ### for -/
/-- what is walked: the items, and what must stay true of the store -/
structure Walk where
  items : List A
  ok : Store → Prop
abbrev MI := Slots → Store → Res Walk
def ItA (c : Ctx) (w : Wd) (n : Nat) (J : It) (k : Walk) : Prop := ∀ (w1 : Wd) (st1 : Store) (H1 : Hp), Ext w n w1 st1.length → RelS c w1 st1 H1 → k.ok st1 →
  J.stop k.items.length H1 ∧ ∀ i a, k.items[i]? = some a → J.go i H1 ∧ ∀ v H2, J.yld i H1 v H2 → ∀ σa σ, Rel c w1 σa st1 σ H1 → ∃ w2, Ext w1 st1.length w2 st1.length ∧ Rel c w2 σa st1 σ H2 ∧ RA c w2 st1.length v a
def tMI (c : Ctx) (W : WX) (it : MI) : TI := fun σ H R => ∃ w σa st, Rel c w σa st σ H ∧ Post c w st.length σa σ (fun w n J k => ItA c w n J k) W R (it σa st)
noncomputable def forA (g : MG) (b : MS) (ok : Store → Prop) : List A → Slots → Store → Out
  | [], σ, st => needO (ok st) (.nx σ st)
  | x :: r, σ, st => needO (ok st) (match g x σ st with
    | none => .no
    | some (σ1, st1) => match b σ1 st1 with
      | .nx σ2 st2 => forA g b ok r σ2 st2
      | .ct σ2 st2 => forA g b ok r σ2 st2
      | .bk σ2 st2 => .nx σ2 st2
      | o => o)
noncomputable def mFor (it : MI) (g : MG) (b : MS) : MS := fun σ st => lift (it σ st) σ fun k st1 => forA g b k.ok k.items σ st1
section
variable {X : Cx} {c : Ctx} {W : WX} {e a1 a2 a3 tg iter elt : Expr} {es : List Expr} {body : List Stmt} {t : MT} {b : MS} {it : MI} {g : MG} {f : ME} {fs : MA} {p pos : Pos}
theorem s_for (hp : PassesOwn (model X.prog X.w) X.A X.env X.xe) (hc : X.calm = true) (hi : PI X tg iter (tMI c W it)) (hg : PG X tg (tMG c g)) (hb : PSs X body (tMS c W b)) (hs : ∀ x, foldedSetIterable iter X.env x = pure x := by intro _; rfl) :
    PS X (.For tg iter body [] pos) (tMS c W (mFor it g b)) := ps_imp (ps_for hp hc hi hg hb hs) fun D σ H ⟨w, σa, st, rl, p⟩ =>
  ⟨w, σa, st, rl, PostO.lift p fun J k st1 w1 H1 e1 rl1 hk p1 => by
    refine ⟨fun i m σ H => ∃ w' σa' st', m = k.items.length - i ∧ i ≤ k.items.length ∧ Ext w1 st1.length w' st'.length ∧ Rel c w' σa' st' σ H ∧ PostO c w' st'.length W D (forA g b k.ok (k.items.drop i) σa' st'), ⟨_, w1, σa, st1, rfl, Nat.zero_le _, Ext.refl _ _, rl1, p1⟩, ?_⟩
    rintro i m σ2 H2 ⟨w2, σa2, st2, rfl, hi, e2, rl2, p2⟩
    by_cases hlt : i < k.items.length
    · have hx : k.items[i]? = some k.items[i] := List.getElem?_eq_getElem hlt
      rw [List.drop_eq_getElem_cons hlt, forA] at p2
      obtain ⟨ok, p2⟩ := PostO.need p2
      obtain ⟨go, yl⟩ := (hk w2 st2 H2 e2 rl2.rs ok).2 i _ hx
      refine .inr ⟨go, fun σ' H' => ∃ w' σa' st', Ext w1 st1.length w' st'.length ∧ Rel c w' σa' st' σ' H' ∧ PostO c w' st'.length W D (forA g b k.ok (k.items.drop (i + 1)) σa' st'), fun σ' H' ⟨w', σa', st', q⟩ => ⟨k.items.length - (i + 1), by omega, w', σa', st', rfl, hlt, q⟩, fun v H3 y => ?_⟩
      obtain ⟨w3, e3, rl3, ra⟩ := yl v H3 y σa2 σ2 rl2
      refine ⟨w3, σa2, st2, _, rl3, ra, ?_⟩
      split at p2
      · exact p2.elim
      · rename_i σ4 st4 hg
        rw [hg]
        intro σ' w' H' e4 rl4
        refine ⟨w', σ4, st4, rl4, ?_⟩
        have ex := (e2.trans e3).trans e4
        have p3 := PostO.mono (e3.trans e4) p2
        cases hb : b σ4 st4 with
        | nx σ5 st5 => rw [hb] at p3; exact fun σ' w' H' e r => ⟨w', σ5, st5, ex.trans e, r, PostO.mono e p3⟩
        | ct σ5 st5 => rw [hb] at p3; exact fun σ' w' H' e r => ⟨w', σ5, st5, ex.trans e, r, PostO.mono e p3⟩
        | bk σ5 st5 => rw [hb] at p3; exact p3
        | rt _ _ => rw [hb] at p3; exact p3
        | ex _ _ _ => rw [hb] at p3; exact p3
        | no => rw [hb] at p3; exact p3
    · have e : i = k.items.length := by omega
      subst e
      rw [List.drop_length, forA] at p2
      obtain ⟨ok, p2⟩ := PostO.need p2
      exact .inl ⟨(hk w2 st2 H2 e2 rl2.rs ok).1, PostO.nxt p2 rl2⟩⟩
theorem pi_imp {t t' : TI} (h : PI X tg iter t) (i : ∀ σ H R, t' σ H R → t σ H R) : PI X tg iter t' := ⟨fun pins s σ H R I q => h.run pins s σ H R I (i σ H R q)⟩
/-- over a list -/
def iListM (f : ME) : MI := fun σ st => (f σ st).bind fun x st1 => match viewS st1 x with
  | some xs => .ok ⟨xs, fun s => viewS s x = some xs⟩ st1
  | none => .no
theorem i_list (h : PE X e (tM c W f)) (F : Fits X c := by exact ⟨rfl, rfl⟩) : PI X tg e (tMI c W (iListM f)) := pi_imp (pi_list h) fun σ H R ⟨w, σa, st, rl, p⟩ => ⟨w, σa, st, rl, p.bind fun v x st1 w1 H1 _ rl1 rx p1 => by
  split at p1
  · rename_i xs hv
    obtain ⟨a, us, rfl, q, pr⟩ := viewS_ok rl1.rs rx hv
    rw [F.K]
    refine ⟨a, rfl, ⟨us, q⟩, p1.here rl1 fun w2 st2 H2 e2 rs2 ok => ?_⟩
    obtain ⟨a', us', e', q', pr'⟩ := viewS_ok rs2 (rx.ext e2) ok
    cases e'
    refine ⟨⟨us', q', by rw [pr'.length]; exact Nat.le_refl _⟩, fun i y hy => ?_⟩
    obtain ⟨u, hu, ru⟩ := paired_get pr' hy
    refine ⟨⟨us', u, q', hu⟩, fun v H3 ⟨e3, yv⟩ σa2 σ2 rl2 => ⟨w2, Ext.refl _ _, by rw [e3]; exact rl2, ?_⟩⟩
    have := yv us' q'
    rw [hu] at this
    cases this
    exact ru
  · exact p1.elim⟩
/-- over a tuple -/
def iTupM (f : ME) : MI := fun σ st => (f σ st).bind fun x st1 => match viewT x with
  | some ds => .ok ⟨ds.map .d, fun _ => True⟩ st1
  | none => .no
theorem i_tup (h : PE X e (tM c W f)) (F : Fits X c := by exact ⟨rfl, rfl⟩) (inj : ∀ (pins : List (Addr × Obj)) (s : Shared) (σ : L2.St) (H : Hp) (a : Addr) (xs ys : List V), Inv X pins σ H s → SqT X.K H a xs → SqT X.K H a ys → xs = ys := by exact fun _ _ _ _ _ _ _ I h h' => I.tuple_inj h h') :
    PI X tg e (tMI c W (iTupM f)) := ⟨fun pins s σ H R I ⟨w, σa, st, rl, p⟩ => (pi_tup h).run pins s σ H R I ⟨w, σa, st, rl, p.bind fun v x st1 w1 H1 _ rl1 rx p1 => by
  split at p1
  · rename_i ds hv
    obtain ⟨a, us, rfl, q, pr⟩ := viewT_ok rl1.rs rx hv
    rw [F.K]
    refine ⟨a, rfl, ⟨us, q⟩, p1.here rl1 fun w2 st2 H2 e2 rs2 ok => ?_⟩
    obtain ⟨a', us', e', q', pr'⟩ := viewT_ok rs2 (rx.ext e2) hv
    cases e'
    have prd : Paired (RA c w2 st2.length) us' (ds.map A.d) := ras_d pr'
    refine ⟨⟨us', q', by rw [prd.length]; exact Nat.le_refl _⟩, fun i y hy => ?_⟩
    obtain ⟨u, hu, ru⟩ := paired_get prd hy
    refine ⟨⟨us', u, q', hu⟩, fun v H3 ⟨e3, yv⟩ σa2 σ2 rl2 => ⟨w2, Ext.refl _ _, by rw [e3]; exact rl2, ?_⟩⟩
    have := yv us' q'
    rw [hu] at this
    cases this
    exact ru
  · exact p1.elim⟩⟩
/-- ranges -/
def rangeA (lo : Int) (n : Nat) (s : Int) : List A := (List.range n).map fun i => A.d (.int (lo + (i : Nat) * s))
theorem ItA.range {w : Wd} {m : Nat} {lo : Int} {n : Nat} : ItA c w m (Itr lo n) ⟨rangeA lo n 1, fun _ => True⟩ := fun w1 st1 H1 e rs _ => by
  refine ⟨show n ≤ (rangeA lo n 1).length by unfold rangeA; rw [List.length_map, List.length_range]; exact Nat.le_refl _, fun i a h => ?_⟩
  have h : (rangeA lo n 1)[i]? = some a := h
  unfold rangeA at h
  rw [List.getElem?_map] at h
  obtain ⟨j, h1, rfl⟩ := Option.map_eq_some_iff.mp h
  obtain ⟨hl, h2⟩ := List.getElem?_eq_some_iff.mp h1
  rw [List.length_range] at hl
  rw [List.getElem_range] at h2
  subst h2
  exact ⟨hl, fun v H2 ⟨e3, ev⟩ σa σ rl => ⟨w1, Ext.refl _ _, by rw [e3]; exact rl, by rw [ev, Int.mul_one]; exact rfl⟩⟩
theorem ItA.rangeC {w : Wd} {m : Nat} {lo s : Int} {n : Nat} : ItA c w m (Itc lo s n) ⟨rangeA lo n s, fun _ => True⟩ := fun w1 st1 H1 e rs _ => by
  refine ⟨show n ≤ (rangeA lo n s).length by unfold rangeA; rw [List.length_map, List.length_range]; exact Nat.le_refl _, fun i a h => ?_⟩
  have h : (rangeA lo n s)[i]? = some a := h
  unfold rangeA at h
  rw [List.getElem?_map] at h
  obtain ⟨j, h1, rfl⟩ := Option.map_eq_some_iff.mp h
  obtain ⟨hl, h2⟩ := List.getElem?_eq_some_iff.mp h1
  rw [List.length_range] at hl
  rw [List.getElem_range] at h2
  subst h2
  exact ⟨hl, fun v H2 ⟨e3, ev⟩ σa σ rl => ⟨w1, Ext.refl _ _, by rw [e3]; exact rl, by rw [ev]; exact rfl⟩⟩
noncomputable def iRng1M (fs : MA) : MI := fun σ st => (fs σ st).bind fun xs st1 => match xs with
  | [.d (.int j)] => ifc (-(2 ^ 62) ≤ j ∧ j < 2 ^ 62) (.ok ⟨rangeA 0 j.toNat 1, fun _ => True⟩ st1) .no
  | _ => .no
noncomputable def iRng2M (fs : MA) : MI := fun σ st => (fs σ st).bind fun xs st1 => match xs with
  | [.d (.int i), .d (.int j)] => ifc (-(2 ^ 62) ≤ i ∧ i < 2 ^ 62 ∧ -(2 ^ 62) ≤ j ∧ j < 2 ^ 62) (.ok ⟨rangeA i (j - i).toNat 1, fun _ => True⟩ st1) .no
  | _ => .no
noncomputable def iRng3M (fs : MA) : MI := fun σ st => (fs σ st).bind fun xs st1 => match xs with
  | [.d (.int i), .d (.int j), .d (.int k)] => need (∃ n, RgC i j k n) (.ok ⟨rangeA i (Builtin.Range.rangeSize i j k).toNat k, fun _ => True⟩ st1)
  | _ => .no
theorem i_range1 (hm : c.mg "range" = none) (ha : PA X [a1] (tMA c W fs)) (hgl : Gl X "range" := by rfl) (F : Fits X c := by exact ⟨rfl, rfl⟩) (hs : starEach [a1] X.env = [(false, eval a1 X.env)] := by rfl) : PI X tg (.Call (.Name "range" p) [a1] [] pos) (tMI c W (iRng1M fs)) :=
  pi_imp (pi_range1 hgl (by rw [F.mg]; exact hm) ha hs) fun σ H R ⟨w, σa, st, rl, p⟩ => ⟨w, σa, st, rl, p.bind fun vs xs st1 w1 H1 _ rl1 rx p1 => by
    simp only [ifc] at p1
    split at p1
    · split at p1
      · rename_i h
        obtain ⟨v, rfl, r⟩ := pr1 rx
        cases r
        exact ⟨_, rfl, h.1, h.2, p1.here rl1 ItA.range⟩
      · exact p1.elim
    · exact p1.elim⟩
theorem i_range2 (hm : c.mg "range" = none) (ha : PA X [a1, a2] (tMA c W fs)) (hgl : Gl X "range" := by rfl) (F : Fits X c := by exact ⟨rfl, rfl⟩) (hs : starEach [a1, a2] X.env = [(false, eval a1 X.env), (false, eval a2 X.env)] := by rfl) (hs2 : starEach [a2] X.env = [(false, eval a2 X.env)] := by rfl) : PI X tg (.Call (.Name "range" p) [a1, a2] [] pos) (tMI c W (iRng2M fs)) :=
  pi_imp (pi_range2 hgl (by rw [F.mg]; exact hm) ha hs hs2) fun σ H R ⟨w, σa, st, rl, p⟩ => ⟨w, σa, st, rl, p.bind fun vs xs st1 w1 H1 _ rl1 rx p1 => by
    simp only [ifc] at p1
    split at p1
    · split at p1
      · rename_i h
        obtain ⟨v, u, rfl, r, r'⟩ := pr2 rx
        cases r
        cases r'
        exact ⟨_, _, rfl, h, p1.here rl1 ItA.range⟩
      · exact p1.elim
    · exact p1.elim⟩
theorem i_range3 (hm : c.mg "range" = none) (ha : PA X [a1, a2, a3] (tMA c W fs)) (hgl : Gl X "range" := by rfl) (F : Fits X c := by exact ⟨rfl, rfl⟩) (hs : starEach [a1, a2, a3] X.env = (false, eval a1 X.env) :: starEach [a2, a3] X.env := by rfl) (hpl : (backTo pos (starEach [a2, a3] X.env)).any (·.1) = false := by rfl) : PI X tg (.Call (.Name "range" p) [a1, a2, a3] [] pos) (tMI c W (iRng3M fs)) :=
  pi_imp (pi_range3 hgl (by rw [F.mg]; exact hm) ha hs hpl) fun σ H R ⟨w, σa, st, rl, p⟩ => ⟨w, σa, st, rl, p.bind fun vs xs st1 w1 H1 _ rl1 rx p1 => by
    split at p1
    · obtain ⟨⟨n, h⟩, p1⟩ := p1.need
      obtain ⟨v, u, z, rfl, r, r', r2⟩ := pr3 rx
      cases r
      cases r'
      cases r2
      have e := h.2.2.2
      rw [e, Int.toNat_natCast] at p1
      exact ⟨_, _, _, n, rfl, h, p1.here rl1 ItA.rangeC⟩
    · exact p1.elim⟩
end
end Am
/-! ### Am: defs and their calls -/
namespace Am
open PySem PySem.Spec PyProof.Rows L2
/-- the promise of a def whose machine is f -/
def spM (c : Ctx) (f : MF) : Sp := fun vs H Q E => ∃ w st as, RelS c w st H ∧ Paired (RA c w st.length) vs as ∧ match f as st with
  | .ok a st1 => ∀ v w1 H1, Ext w st.length w1 st1.length → RelS c w1 st1 H1 → RA c w1 st1.length v a → Q v H1
  | .ex x st1 => ∀ cls d w1 H1, Ext w st.length w1 st1.length → RelS c w1 st1 H1 → RX c w1 x cls d → E cls d H1
  | .no => False
def Rel.of {c : Ctx} {w w1 : Wd} {σa : Slots} {st st1 : Store} {σ : L2.St} {H H1 : Hp} (r : Rel c w σa st σ H) (e : Ext w st.length w1 st1.length) (rs : RelS c w1 st1 H1) : Rel c w1 σa st1 σ H1 :=
  ⟨rs, r.len, fun i a h => let ⟨v, q, ra⟩ := r.sl i a h; ⟨v, q, ra.ext e⟩⟩
def mCall (f : MF) (fs : MA) : ME := fun σ st => (fs σ st).bind f
theorem passAtM {X : Cx} {W : WX} (tk : Takes X W) (σ : L2.St) : PassesAt (L2.CX X.prog X.w) X σ (fun cls d H => W cls d σ H) := fun pins H s e s' I c => tk e s' (XE.of_call I (fun _ _ _ h => h) c)
theorem takes0 {X : Cx} : Takes X (fun _ _ _ _ => False) := fun _ _ ⟨_, _, _, _, _, _, _, _, _, _, _, _, _, _, _, _, h⟩ => h.elim
section
variable {X : Cx} {c : Ctx} {W : WX} {e : Expr} {es : List Expr} {fs : MA} {f : MF} {k : Nat} {ps : List Str} {x : Str} {p pos : Pos}
theorem entail_call (σ : L2.St) (H : Hp) (Q : VK) : tM c W (mCall f fs) σ H Q → tCallSD (spM c f) [] (fun σ cls d H => W cls d σ H) (tMA c W fs) σ H Q := fun ⟨w, σa, st, rl, q⟩ =>
  ⟨w, σa, st, rl, q.bind fun vs xs st1 w1 H1 _ rl1 rx p1 => ⟨w1, st1, xs, rl1.rs, by rw [List.append_nil]; exact rx, by
    cases hf : f xs st1 with
    | ok a st2 => rw [hf] at p1; exact fun v w2 H2 e2 rs ra => p1 v w2 H2 e2 (rl1.of e2 rs) ra
    | ex y st2 => rw [hf] at p1; exact fun cls d w2 H2 e2 rs rx => p1 cls d w2 H2 e2 (rl1.of e2 rs) rx
    | no => rw [hf] at p1; exact p1⟩⟩
theorem e_call (h : Rw.Has X.prog X.w X.K X.mg X.base (L2.CX X.prog X.w) k x ps (spM c f)) (hr : Room k X.A) (tk : Takes X W) (ha : PA X (e :: es) (tMA c W fs)) (hgl : Gl X x := by rfl) (hdb : (x == ("__debug__" : Str)) = false := by decide)
    (he : starEach (e :: es) X.env = (false, eval e X.env) :: starEach es X.env := by rfl) (hpl : (backTo pos (starEach es X.env)).any (·.1) = false := by rfl) : PE X (.Call (.Name x p) (e :: es) [] pos) (tM c W (mCall f fs)) := by
  obtain ⟨fa, fd, g, kp, b, _, F⟩ := h
  exact pe_imp (pe_callSD F hr hgl g kp b .nil (fun σ => passAtM tk σ) ha hdb he hpl) entail_call
/-- no arguments -/
def tCallN (sp : Sp) (E : L2.St → XK) : TE := fun σ H Q => sp [] H Q (E σ)
theorem pe_callN {CX : CXT} {g : Addr} {fd : FuncData} {sp : Sp} {E : L2.St → XK} (F : FnOk X.prog X.w X.K X.mg X.base CX k g fd ps sp) (room : Room k X.A) (gl : Gl X x) (at_ : X.mg x = some (.ref g)) (kp : PySem.W.keepIn X.K (.ref g) = true) (bd : Binds X.K fd ps []) (px : ∀ σ, PassesAt CX X σ (E σ))
    (nd : (x == ("__debug__" : Str)) = false := by decide) : PE X (.Call (.Name x p) [] [] pos) (tCallN sp E) where
  run := fun pins s σ H Q I h => wpAny_Call_Name_kw (ld_glob I gl at_ (PySem.W.callWith_K0 I.kIn kp (run_fnSD (vs := []) (us := []) F room bd .nil (px σ) I .nil h)) nd)
theorem e_call0 (h : Rw.Has X.prog X.w X.K X.mg X.base (L2.CX X.prog X.w) k x ps (spM c f)) (hr : Room k X.A) (tk : Takes X W) (hgl : Gl X x := by rfl) (hdb : (x == ("__debug__" : Str)) = false := by decide) :
    PE X (.Call (.Name x p) [] [] pos) (tM c W (mCall f mNil)) := by
  obtain ⟨fa, fd, g, kp, b, _, F⟩ := h
  exact pe_imp (pe_callN (E := fun σ cls d H => W cls d σ H) F hr hgl g kp b (fun σ => passAtM tk σ) hdb) fun σ H Q ⟨w, σa, st, rl, q⟩ => ⟨w, st, [], rl.rs, .nil, by
    have q : Post c w st.length σa σ (RA c) W Q (f [] st) := q
    cases hf : f [] st with
    | ok a st2 => rw [hf] at q; exact fun v w2 H2 e2 rs ra => q v w2 H2 e2 (rl.of e2 rs) ra
    | ex y st2 => rw [hf] at q; exact fun cls d w2 H2 e2 rs rx => q cls d w2 H2 e2 (rl.of e2 rs) rx
    | no => rw [hf] at q; exact q⟩
end
/-! ### a def's exit -/
/-- what a body comes to: its result, its cells forgotten -/
def ABelowD (n : Nat) (a : A) : Prop := ABelow n a
/-- how a def hands back its result. 0: as it is, the store too; 1: as it is, the def's own cells forgotten; 2: as data; 3: its own cell moved to the front -/
noncomputable def exitR (k : Nat) (st : Store) (a : A) (st1 : Store) : Res A := match k with
  | 0 => .ok a st1
  | 1 => need (Trunc st st1 ∧ ABelow st.length a) (.ok a (st1.take st.length))
  | 2 => (frz a st1).bind fun b st2 => need (Trunc st st2 ∧ ABelow st.length b) (.ok b (st2.take st.length))
  | _ => match a with
    | .c i => match st1[i]? with
      | some x => need (st.length ≤ i ∧ Trunc st st1 ∧ CBelow st.length x) (.ok (.c st.length) (st1.take st.length ++ [x]))
      | none => .no
    | .d x => need (Trunc st st1 ∧ ABelow st.length (.d x)) (.ok (.d x) (st1.take st.length))
noncomputable def runDef (k : Nat) (n : Nat) (m : MS) : MF := fun as st => match m (as.map some ++ List.replicate (n - as.length) none) st with
  | .nx _ st1 => exitR k st (.d .non) st1
  | .rt a st1 => exitR k st a st1
  | .ex x _ st1 => need (k = 0 ∨ Trunc st st1) (.ex x (if k = 0 then st1 else st1.take st.length))
  | _ => .no
/-- an end of a def -/
def EndR (c : Ctx) (w : Wd) (n : Nat) (Q : VK) (E : XK) : Res A → Prop
  | .ok a st1 => ∀ v w1 H1, Ext w n w1 st1.length → RelS c w1 st1 H1 → RA c w1 st1.length v a → Q v H1
  | .ex x st1 => ∀ cls d w1 H1, Ext w n w1 st1.length → RelS c w1 st1 H1 → RX c w1 x cls d → E cls d H1
  | .no => False
section
variable {c : Ctx} {w w1 : Wd} {n : Nat} {Q : VK} {E : XK} {st st1 : Store} {H H1 : Hp}
theorem EndR.need {p : Prop} {r : Res A} (h : EndR c w n Q E (need p r)) : p ∧ EndR c w n Q E r := by
  unfold Am.need at h
  by_cases q : p
  · rw [if_pos q] at h; exact ⟨q, h⟩
  · rw [if_neg q] at h; exact h.elim
theorem frz_rs {a b : A} {v : V} {st2 : Store} (rs : RelS c w1 st1 H1) (r : RA c w1 st1.length v a) (h : frz a st1 = .ok b st2) : ∃ w2, Ext w1 st1.length w2 st2.length ∧ RelS c w2 st2 H1 ∧ RA c w2 st2.length v b := by
  cases a with
  | d x => cases h; exact ⟨w1, Ext.refl _ _, rs, r⟩
  | c i =>
    obtain ⟨hi, rfl⟩ := r
    have h : (match st1[i]? with | some (.fz x) => Res.ok (A.d x) st1 | some x => (match cellD x with | some d => .ok (.d d) (st1.set i (.fz d)) | none => .no) | none => .no) = .ok b st2 := h
    split at h
    · rename_i q
      cases h
      exact ⟨w1, Ext.refl _ _, rs, (rs.cell _ _ q).1⟩
    · rename_i x nf q
      split at h
      · rename_i d hd
        cases h
        obtain ⟨g, o, ho, hr⟩ := cell_live rs q (fun y z => nf y (by rw [z])) hd
        exact ⟨_, by rw [List.length_set]; exact w1.put_ext g, rs.freeze q g ho hr, hr⟩
      · cases h
    · cases h
theorem exit_ok {k : Nat} {a : A} {v : V} (r0 : RelS c w st H) (e : Ext w st.length w1 st1.length) (rs : RelS c w1 st1 H1) (ra : RA c w1 st1.length v a) (p : EndR c w st.length Q E (exitR k st a st1)) : Q v H1 := by
  unfold exitR at p
  split at p
  · exact p v w1 H1 e rs ra
  · obtain ⟨⟨t, b⟩, p⟩ := p.need
    exact p v w1 H1 (e.cut t) (r0.trunc rs t) (by rw [take_len t]; exact ra.cut b)
  · cases hf : frz a st1 with
    | ok b st2 =>
      rw [hf] at p
      obtain ⟨⟨t, b⟩, p⟩ := EndR.need (r := _) p
      obtain ⟨w2, e2, rs2, ra2⟩ := frz_rs rs ra hf
      exact p v w2 H1 ((e.trans e2).cut t) (r0.trunc rs2 t) (by rw [take_len t]; exact ra2.cut b)
    | ex _ _ =>
      have : ∀ (a : A) (st : Store) x s, frz a st ≠ .ex x s := fun a st x s h => by
        unfold frz at h
        split at h
        · cases h
        · split at h
          · cases h
          · split at h <;> cases h
          · cases h
      exact absurd hf (this _ _ _ _)
    | no => rw [hf] at p; exact p.elim
  · split at p
    · rename_i i
      split at p
      · rename_i x hx
        obtain ⟨⟨hi, t, b⟩, p⟩ := p.need
        obtain ⟨_, rfl⟩ := ra
        -- the cell i of w1 is st.length's
        have hil := RelS.lt hx
        let w2 : Wd := ⟨w1.G, fun j => if j = st.length then w1.E i else w1.E j⟩
        have e2 : ∀ j, j < st.length → w2.E j = w1.E j := fun j hj => if_neg (Nat.ne_of_lt hj)
        have e3 : w2.E st.length = w1.E i := if_pos rfl
        have hlen : (st1.take st.length ++ [x]).length = st.length + 1 := by rw [List.length_append, take_len t]; rfl
        have ext : Ext w1 st.length w2 (st.length + 1) := ⟨.refl _, e2, Nat.le_succ _⟩
        have r1 := r0.trunc rs t
        refine p _ w2 H1 ⟨e.same, fun j hj => (e2 j hj).trans (e.cells j hj), by rw [hlen]; exact Nat.le_succ _⟩ ⟨rs.same, fun j l hj hl q => ?_, fun j y hy => ?_⟩ ⟨by rw [hlen]; exact Nat.lt_succ_self _, by rw [e3]⟩
        · rw [hlen] at hj hl
          by_cases h1 : j = st.length
          · by_cases h2 : l = st.length
            · rw [h1, h2]
            · subst h1
              rw [e3, e2 l (by omega)] at q
              have := rs.inj i l hil (Nat.lt_of_lt_of_le (by omega) t.1) q
              omega
          · by_cases h2 : l = st.length
            · subst h2
              rw [e3, e2 j (by omega)] at q
              have := rs.inj j i (Nat.lt_of_lt_of_le (by omega) t.1) hil q
              omega
            · rw [e2 j (by omega), e2 l (by omega)] at q
              exact rs.inj j l (Nat.lt_of_lt_of_le (by omega) t.1) (Nat.lt_of_lt_of_le (by omega) t.1) q
        · rw [hlen]
          by_cases h1 : j < st.length
          · rw [List.getElem?_append_left (by rw [take_len t]; exact h1)] at hy
            have cr := r1.cell j y hy
            rw [take_len t] at cr
            rw [e2 j h1]
            exact cr.stay ext (fun g => g) rfl
          · have hl := RelS.lt hy
            rw [hlen] at hl
            have : j = st.length := by omega
            subst this
            rw [List.getElem?_append_right (by rw [take_len t]; exact Nat.le_refl _), take_len t, Nat.sub_self] at hy
            cases hy
            rw [e3]
            exact ((rs.cell i x hx).cut b).stay ext (fun g => g) rfl
      · exact p.elim
    · obtain ⟨⟨t, b⟩, p⟩ := EndR.need (r := _) p
      exact p v w1 H1 (e.cut t) (r0.trunc rs t) (by rw [take_len t]; exact ra.cut b)
end
/-- a def of np parameters and nn names -/
noncomputable def mF (np nn ex : Nat) (m : MS) : MF := fun as st => if as.length = np then runDef ex nn m as st else .no
section
variable {P : Program} {w : World} {K : PySem.W.Frag} {mg : Str → Option Value} {base : Heap} {k : Nat} {x qual : Str} {st : Stmt} {ps N : List Str}
/-- THE RULE of a def at f -/
theorem def_fn {f : Addr} {fd : FuncData} {m : MS} (np nn ex : Nat) (D : Fun K x qual st f fd) (S : FnScope N ps (defScope st)) (hp : ps.length = np) (hn : N.length = nn)
    (hbody : ∀ (cdv : Value) (A : Around) (outer : List Env) (s : Shared) (H : Hp) (E : XK), Room k (A.deeper (envOfC qual (defScope st) s.heap.objs.size f cdv)) →
      Takes (cxOf (L2.CX P w) P w K mg base N qual (defScope st) f cdv A outer s H E) (fun cls d _ H => E cls d H) →
      PSs (cxOf (L2.CX P w) P w K mg base N qual (defScope st) f cdv A outer s H E) (defBody st) (tMS ⟨K, mg⟩ (fun cls d _ H => E cls d H) m)) :
    FnOk P w K mg base (L2.CX P w) (k + 1) f fd ps (spM ⟨K, mg⟩ (mF np nn ex m)) := by
  subst hp hn
  refine D.okX S ?_ (fun cdv A outer s H vs Q E hr h => ⟨_, hbody cdv A outer s H E hr (takes_of rfl rfl rfl rfl), ?_⟩)
  · rintro vs H Q E ⟨w, st, as, rs, pr, h⟩
    apply Classical.byContradiction
    intro z
    have h : EndR ⟨K, mg⟩ w st.length Q E (if as.length = ps.length then runDef ex N.length m as st else .no) := h
    rw [if_neg (by rw [← pr.length]; exact z)] at h
    exact h
  · obtain ⟨w, st, as, rs, pr, h⟩ := h
    have h : EndR ⟨K, mg⟩ w st.length Q E (if as.length = ps.length then runDef ex N.length m as st else .no) := h
    by_cases hl : as.length = ps.length
    · rw [if_pos hl] at h
      have rl : Rel ⟨K, mg⟩ w (as.map some ++ List.replicate (N.length - as.length) none) st (L2.start N vs) H := by
        refine ⟨rs, ?_, fun i a hi => ?_⟩
        · unfold L2.start
          rw [List.length_append, List.length_append, List.length_map, List.length_map, List.length_replicate, List.length_replicate, pr.length]
        · have hil : i < as.length := by
            apply Classical.byContradiction
            intro z
            rw [List.getElem?_append_right (by rw [List.length_map]; omega), List.getElem?_replicate] at hi
            split at hi <;> cases hi
          rw [List.getElem?_append_left (by rw [List.length_map]; exact hil), List.getElem?_map] at hi
          obtain ⟨b, h1, h2⟩ := Option.map_eq_some_iff.mp hi
          cases h2
          obtain ⟨v, hv, ra⟩ := paired_get pr h1
          refine ⟨v, ?_, ra⟩
          unfold L2.start
          rw [List.getElem?_append_left (by rw [List.length_map, pr.length]; exact hil), List.getElem?_map, hv]
          rfl
      refine ⟨w, _, st, rl, ?_⟩
      unfold runDef at h
      cases hm : m (as.map some ++ List.replicate (N.length - as.length) none) st with
      | nx σ1 st1 => rw [hm] at h; exact fun σ w1 H1 e r => exit_ok (a := .d .non) rs e r.rs rfl h
      | rt a st1 => rw [hm] at h; exact fun v w1 H1 e r ra => exit_ok rs e r ra h
      | ex y σ1 st1 =>
        rw [hm] at h
        obtain ⟨t, h⟩ := EndR.need h
        intro σ cls d w1 H1 e r rx
        by_cases hk : ex = 0
        · rw [if_pos hk] at h
          exact h cls d w1 H1 e r.rs rx
        · rw [if_neg hk] at h
          have t := t.resolve_left hk
          exact h cls d w1 H1 (e.cut t) (rs.trunc r.rs t) rx
      | bk _ _ => rw [hm] at h; exact h.elim
      | ct _ _ => rw [hm] at h; exact h.elim
      | no => rw [hm] at h; exact h
    · rw [if_neg hl] at h
      exact h.elim
/-- THE RULE: a def keeps its machine's promise -/
theorem def_has {m : MS} (np nn ex : Nat) (D : Rw.Def K mg x qual st ps) (S : FnScope N ps (defScope st)) (hp : ps.length = np) (hn : N.length = nn)
    (hbody : ∀ (f : Addr) (cdv : Value) (A : Around) (outer : List Env) (s : Shared) (H : Hp) (E : XK), Room k (A.deeper (envOfC qual (defScope st) s.heap.objs.size f cdv)) →
      Takes (cxOf (L2.CX P w) P w K mg base N qual (defScope st) f cdv A outer s H E) (fun cls d _ H => E cls d H) →
      PSs (cxOf (L2.CX P w) P w K mg base N qual (defScope st) f cdv A outer s H E) (defBody st) (tMS ⟨K, mg⟩ (fun cls d _ H => E cls d H) m)) :
    Rw.Has P w K mg base (L2.CX P w) (k + 1) x ps (spM ⟨K, mg⟩ (mF np nn ex m)) := by
  obtain ⟨f, fd, g, F, b⟩ := D
  exact ⟨f, fd, g, F.kp, b, Rw.fun_look F, def_fn np nn ex F S hp hn (hbody f)⟩
end
end Am
/-! ### Am: comprehensions, raising -/
namespace Am
open PySem PySem.Spec PyProof.Rows L2
/-- a comprehension's target: the slots behind it -/
abbrev Pt := Slots → A → Option Slots
def pt1 (j : Nat) : Pt := fun σ x => some (σ.set j (some x))
def pt2 (i j : Nat) : Pt := fun σ x => match viewT x with
  | some [a, b] => some ((σ.set i (some (.d a))).set j (some (.d b)))
  | _ => none
def wipeA (σ : Slots) : List Nat → Slots
  | [] => σ
  | v :: vs => (wipeA σ vs).set v none
def PtOk (c : Ctx) (vs : List Nat) (pt : Pt) (g : TG) : Prop := ∀ (w : Wd) (σa σb : Slots) (st : Store) (σ : L2.St) (H : Hp) (x : A) (v : V) (Q : L2.St → Hp → Prop), Rel c w (wipeA σa vs) st (wipe σ vs) H → RA c w st.length v x → pt (wipeA σa vs) x = some σb →
  (∀ σ', Rel c w σb st σ' H → wipe σ' vs = wipe σ vs → Q σ' H) → g v (wipe σ vs) H Q
def noEx {α : Type} : Res α → Res α
  | .ok a st => .ok a st
  | _ => .no
noncomputable def lcA (pt : Pt) (t : MT) (f : ME) (n : Nat) (ok : Store → Prop) (σ : Slots) : List A → Store → Res Unit
  | [], st => need (ok st) (.ok () st)
  | x :: r, st => need (ok st) (match pt σ x with
    | none => .no
    | some σ1 => (noEx (t σ1 st)).bind fun b st1 => if b then (noEx (f σ1 st1)).bind fun y st2 => match st2[n]? with
        | some (.lst acc) => ifc (acc.length < SZ) (lcA pt t f n ok σ r (st2.set n (.lst (acc ++ [y])))) .no
        | _ => .no
      else lcA pt t f n ok σ r st1)
noncomputable def lcEnd (k : Bool) (st1 st2 : Store) : Res A := match st2[st1.length]? with
  | some (.lst acc) => if k then .ok (.c st1.length) st2 else match allD acc with
    | some ds => need (Trunc st1 st2) (.ok (.d (.list ds)) (st2.take st1.length))
    | none => .no
  | _ => .no
noncomputable def mLc (k : Bool) (vs : List Nat) (pt : Pt) (it : MI) (t : MT) (f : ME) : ME := fun σ st => (it σ st).bind fun wk st1 => (lcA pt t f st1.length wk.ok (wipeA σ vs) wk.items (st1 ++ [.lst []])).bind fun _ st2 => lcEnd k st1 st2
def mYes : MT := fun _ st => .ok true st
abbrev W0 : WX := fun _ _ _ _ => False
section
variable {c : Ctx} {w w1 : Wd} {n : Nat} {σa : Slots} {st st1 : Store} {σ : L2.St} {H : Hp} {W : WX}
theorem Rel.unset (r : Rel c w σa st σ H) (i : Nat) : Rel c w (σa.set i none) st (σ.set i none) H :=
  ⟨r.rs, by rw [List.length_set, List.length_set]; exact r.len, fun j a h => by
    by_cases e : i = j
    · subst e
      by_cases hl : i < σa.length
      · rw [List.getElem?_set_self hl] at h; cases h
      · rw [List.getElem?_eq_none (by rw [List.length_set]; omega)] at h; cases h
    · rw [List.getElem?_set_ne e] at h
      obtain ⟨v, h1, h2⟩ := r.sl j a h
      exact ⟨v, by rw [List.getElem?_set_ne e]; exact h1, h2⟩⟩
theorem Rel.wipe (r : Rel c w σa st σ H) : ∀ vs : List Nat, Rel c w (wipeA σa vs) st (L2.wipe σ vs) H
  | [] => r
  | v :: vs => (r.wipe vs).unset v
theorem pt1_ok (j : Nat) : PtOk c [j] (pt1 j) (gName j) := by
  intro w σa σb st σ H x v Q rl rx e q
  cases e
  refine q _ (rl.set rx) ?_
  show (((σ.set j none).set j (some v)).set j none) = σ.set j none
  rw [List.set_set, List.set_set]
theorem pt2_ok (i j : Nat) (hij : i ≠ j) : PtOk c [i, j] (pt2 i j) (gTup c.K 2 (gCons (gName i) (gCons (gName j) gNil))) := by
  intro w σa σb st σ H x v Q rl rx e q
  unfold pt2 at e
  split at e
  · rename_i a b hv
    cases e
    obtain ⟨p, us, rfl, h, pr⟩ := viewT_ok rl.rs rx hv
    obtain ⟨u1, u2, rfl, r1, r2⟩ := pr2 pr.pair
    refine ⟨p, _, rfl, h, rfl, _, _, rfl, _, _, rfl, rfl, ?_⟩
    refine q _ ((rl.set (a := .d a) r1).set (a := .d b) r2) ?_
    show (((((σ.set j none).set i none).set i (some u1)).set j (some u2)).set j none).set i none = (σ.set j none).set i none
    rw [List.set_set, List.set_set, List.set_comm (some u1) none hij, List.set_set, List.set_set]
  · cases e
theorem PTs.imp {X : Cx} {ifs : List Expr} {t t' : TT} (h : PTs X ifs t) (i : ∀ σ H Q, t' σ H Q → t σ H Q) : PTs X ifs t' := ⟨fun pins s σ H Q I q => h.run pins s σ H Q I (i σ H Q q)⟩
theorem ts_nil {X : Cx} : PTs X [] (tT c W mYes) := PTs.imp pts_nil fun _ _ _ ⟨_, _, _, rl, p⟩ => p.here rl rfl
theorem ts_one {X : Cx} {e : Expr} {t : MT} (h : PT X e (tT c W t)) : PTs X [e] (tT c W t) := pts_one h
theorem bind_need {α β γ : Type} {R : Wd → Nat → β → α → Prop} {Q : β → Hp → Prop} {p : Prop} {r : Res γ} {k : γ → Store → Res α} (h : Post c w n σa σ R W Q ((need p r).bind k)) : p ∧ Post c w n σa σ R W Q (r.bind k) := by
  unfold need at h
  by_cases q : p
  · rw [if_pos q] at h; exact ⟨q, h⟩
  · rw [if_neg q] at h; exact h.elim
theorem entail_lc {k : Bool} {vs : List Nat} {pt : Pt} {g : TG} {it : MI} {t : MT} {f : ME} (hp : PtOk c vs pt g) (σ : L2.St) (H : Hp) (Q : VK) : tM c W (mLc k vs pt it t f) σ H Q → tLc (tMI c W it) g (tT c W0 t) (tM c W0 f) vs σ H Q := fun ⟨w, σa, st, rl, p⟩ =>
  ⟨w, σa, st, rl, p.bind fun J wk st1 w1 H1 e1 rl1 hk p1 D hD => by
    let wD := w1.cell st1.length D
    have rlD : Rel c wD σa (st1 ++ [.lst []]) σ (upd H1 D (.lst [])) := rl1.push (o := .lst []) hD ⟨rl1.rs.same.free hD, [], upd_same, .nil⟩
    have extD : Ext w1 st1.length wD (st1.length + 1) := w1.cell_ext st1.length D
    have lenD : (st1 ++ [Cell.lst []]).length = st1.length + 1 := by rw [List.length_append]; rfl
    have atD : ∀ {w' : Wd} {n' : Nat}, Ext wD (st1.length + 1) w' n' → w'.E st1.length = D := fun e => (e.cells _ (Nat.lt_succ_self _)).trans (w1.cell_at _ _)
    have p2 := p1
    refine ⟨fun i m H' => ∃ w' st', m = wk.items.length - i ∧ i ≤ wk.items.length ∧ Ext wD (st1.length + 1) w' st'.length ∧ Rel c w' σa st' σ H' ∧ Post c w1 st1.length σa σ (RA c) W Q ((lcA pt t f st1.length wk.ok (wipeA σa vs) (wk.items.drop i) st').bind fun _ st2 => lcEnd k st1 st2),
      ⟨_, wD, _, rfl, Nat.zero_le _, by rw [lenD]; exact Ext.refl _ _, rlD, p2⟩, ?_⟩
    rintro i m H2 ⟨w2, st2, rfl, hi, e2, rl2, p2⟩
    by_cases hlt : i < wk.items.length
    · have hx : wk.items[i]? = some wk.items[i] := List.getElem?_eq_getElem hlt
      rw [List.drop_eq_getElem_cons hlt, lcA] at p2
      obtain ⟨ok, p2⟩ := bind_need p2
      obtain ⟨go, yl⟩ := (hk w2 st2 H2 (extD.trans e2) rl2.rs ok).2 i _ hx
      refine .inr ⟨go, fun H' => ∃ w' st', Ext wD (st1.length + 1) w' st'.length ∧ Rel c w' σa st' σ H' ∧ Post c w1 st1.length σa σ (RA c) W Q ((lcA pt t f st1.length wk.ok (wipeA σa vs) (wk.items.drop (i + 1)) st').bind fun _ st2 => lcEnd k st1 st2),
        fun H' ⟨w', st', q⟩ => ⟨wk.items.length - (i + 1), by omega, w', st', rfl, hlt, q⟩, fun v H3 y => ?_⟩
      obtain ⟨w3, e3, rl3, ra⟩ := yl v H3 y σa σ rl2
      split at p2
      · exact p2.elim
      · rename_i σ1 hpt
        refine hp w3 σa σ1 st2 σ H3 _ v _ (rl3.wipe vs) ra hpt fun σ' rl4 hw => ⟨hw, w3, σ1, st2, rl4, ?_⟩
        cases ht : t σ1 st2 with
        | no => rw [ht] at p2; exact p2.elim
        | ex _ _ => rw [ht] at p2; exact p2.elim
        | ok b st3 =>
          rw [ht] at p2
          intro b' w4 H4 e4 rl5 hb
          subst hb
          have rl5b : Rel c w4 σa st3 σ H4 := rl3.of e4 rl5.rs
          cases b' with
          | false => exact iteF ⟨w4, st3, (e2.trans e3).trans e4, rl5b, p2⟩
          | true =>
            refine iteT ⟨w4, σ1, st3, rl5, ?_⟩
            have p2 : Post c w1 st1.length σa σ (RA c) W Q (((noEx (f σ1 st3)).bind fun y st2 => match st2[st1.length]? with
        | some (.lst acc) => ifc (acc.length < SZ) (lcA pt t f st1.length wk.ok (wipeA σa vs) (wk.items.drop (i + 1)) (st2.set st1.length (.lst (acc ++ [y])))) .no
        | _ => .no).bind fun _ st2 => lcEnd k st1 st2) := p2
            cases hf : f σ1 st3 with
            | no => rw [hf] at p2; exact p2.elim
            | ex _ _ => rw [hf] at p2; exact p2.elim
            | ok y st4 =>
              rw [hf] at p2
              intro u w5 H5 e5 rl6 ru
              have p2 : Post c w1 st1.length σa σ (RA c) W Q ((match st4[st1.length]? with
        | some (.lst acc) => ifc (acc.length < SZ) (lcA pt t f st1.length wk.ok (wipeA σa vs) (wk.items.drop (i + 1)) (st4.set st1.length (.lst (acc ++ [y])))) .no
        | _ => .no).bind fun _ st2 => lcEnd k st1 st2) := p2
              have ex := ((e2.trans e3).trans e4).trans e5
              have rl6b : Rel c w5 σa st4 σ H5 := rl5b.of e5 rl6.rs
              split at p2
              · rename_i acc hacc
                unfold ifc at p2
                split at p2
                · rename_i hl
                  obtain ⟨g, us, eu, pr⟩ := rl6.rs.cell _ _ hacc
                  have rw5 := rl6b.write (y := .lst (acc ++ [y])) (o := .lst (us ++ [u])) hacc g ⟨g, _, upd_same, paired_append pr (.cons ru .nil)⟩
                  rw [atD ex] at eu rw5
                  exact ⟨us, eu, by rw [pr.length]; exact Nat.lt_of_lt_of_le hl (by decide), w5, _, by rw [List.length_set]; exact ex, rw5, p2⟩
                · exact p2.elim
              · exact p2.elim
    · have e : i = wk.items.length := by omega
      subst e
      rw [List.drop_length, lcA] at p2
      obtain ⟨ok, p2⟩ := bind_need p2
      refine .inl ⟨(hk w2 st2 H2 (extD.trans e2) rl2.rs ok).1, ?_⟩
      have p2 : Post c w1 st1.length σa σ (RA c) W Q (lcEnd k st1 st2) := p2
      unfold lcEnd at p2
      split at p2
      · rename_i acc hacc
        have hD2 := atD e2
        cases k with
        | true => exact p2 _ _ _ (extD.trans e2) rl2 ⟨RelS.lt hacc, by rw [hD2]⟩
        | false =>
          simp only [Bool.false_eq_true, if_false] at p2
          split at p2
          · rename_i ds hds
            obtain ⟨tr, p2⟩ := p2.need
            obtain ⟨g, us, eu, pr⟩ := rl2.rs.cell _ _ hacc
            rw [allD_eq hds] at pr
            have fr := rl2.freeze (d := .list ds) hacc g eu ⟨_, us, rfl, upd_same, (ras_of_d pr).same (same_upd g)⟩
            rw [hD2] at fr eu g
            have tr2 : Trunc st1 (st2.set st1.length (.fz (.list ds))) := ⟨by rw [List.length_set]; exact tr.1, fun i hi => by rw [List.getElem?_set_ne (Nat.ne_of_gt hi)]; exact tr.2 i hi⟩
            have rs := rl1.rs.trunc fr.rs tr2
            rw [List.take_set_of_le (Nat.le_refl _)] at rs
            have ext3 : Ext w1 st1.length (w2.put D (.lst us)) (st2.take st1.length).length := ⟨(extD.trans e2).same.trans (same_upd g), (extD.trans e2).cells, by rw [take_len tr]; exact Nat.le_refl _⟩
            exact p2 _ _ _ ext3 (rl1.of ext3 rs) ⟨D, us, rfl, upd_same, (ras_of_d pr).same (same_upd g)⟩
          · exact p2.elim
      · exact p2.elim⟩
end
section
variable {X : Cx} {c : Ctx} {W : WX} {elt tg iter e : Expr} {ifs : List Expr} {scope : Scope} {own : List (Str × Nat)} {pos : Pos} {pt : Pt} {g : TG} {it : MI} {t : MT} {f : ME}
theorem e_lc (k : Bool) (hp : PtOk c (own.map (·.2)) pt g) (hc : X.calm = true) (hN : X.N.Nodup) (hi : PI X tg iter (tMI c W it)) (ok : BlkOk X.N X.env.scope scope own)
    (hg : ∀ (s : Shared) (H : Hp) (C : Addr) (cl : List (Str × Addr)) (fp : List Addr), PG (X.blk s H scope (compEnvC scope cl C X.env) fp) tg g) (ht : ∀ (s : Shared) (H : Hp) (C : Addr) (cl : List (Str × Addr)) (fp : List Addr), PTs (X.blk s H scope (compEnvC scope cl C X.env) fp) ifs (tT c W0 t))
    (he : ∀ (s : Shared) (H : Hp) (C : Addr) (cl : List (Str × Addr)) (fp : List Addr), PE (X.blk s H scope (compEnvC scope cl C X.env) fp) elt (tM c W0 f)) (hs : ∀ x, foldedSetIterable iter X.env x = pure x := by intro _; rfl) :
    PE X (.ListComp elt [⟨tg, iter, ifs, 0⟩] scope pos) (tM c W (mLc k (own.map (·.2)) pt it t f)) := pe_imp (pe_lc hc hN hi ok hg ht he hs) (entail_lc hp)
/-- name = [..] -/
theorem s_setLc (k : Bool) {i : Nat} {y : Str} {py : Pos} {spos : Pos} (hp : PtOk c (own.map (·.2)) pt g) (hc : X.calm = true) (hN : X.N.Nodup) (hy : X.N[i]? = some y) (hyl : X.env.scope.names.lookup y = some .local)
    (hsw : swapsWith (.ListComp elt [⟨tg, iter, ifs, 0⟩] scope pos) (some (.Name y py)) spos.line X.env = pure true) (hi : PI X tg iter (tMI c W it)) (ok : BlkOk X.N X.env.scope scope own)
    (hg : ∀ (s : Shared) (H : Hp) (C : Addr) (cl : List (Str × Addr)) (fp : List Addr), PG (X.blk s H scope (compEnvC scope cl C X.env) fp) tg g) (ht : ∀ (s : Shared) (H : Hp) (C : Addr) (cl : List (Str × Addr)) (fp : List Addr), PTs (X.blk s H scope (compEnvC scope cl C X.env) fp) ifs (tT c W0 t))
    (he : ∀ (s : Shared) (H : Hp) (C : Addr) (cl : List (Str × Addr)) (fp : List Addr), PE (X.blk s H scope (compEnvC scope cl C X.env) fp) elt (tM c W0 f)) (hs : ∀ x, foldedSetIterable iter X.env x = pure x := by intro _; rfl) :
    PS X (.Assign [.Name y py] (.ListComp elt [⟨tg, iter, ifs, 0⟩] scope pos) spos) (tMS c W (mSet i (mLc k (own.map (·.2)) pt it t f))) :=
  ps_imp (ps_setLc hc hN hy hyl hsw hi ok hg ht he hs) fun D σ H ⟨w, σa, st, rl, p⟩ => entail_lc hp σ H _ ⟨w, σa, st, rl, PostO.lift p fun _ _ _ _ _ _ rl1 r p1 => p1.nxt (rl1.set r)⟩
end
end Am
/-! ### Am: constants of the module -/
namespace Am
open PySem PySem.Spec PyProof.Rows L2
section
variable {X : Cx} {c : Ctx} {W : WX} {x : Str} {pos : Pos}
theorem e_glob {v : V} {d : D} (h : Rw.Glob c.mg x v) (hd : ∀ G, DR c G d v := by exact fun _ => rfl) (hgl : Gl X x := by rfl) (F : Fits X c := by exact ⟨rfl, rfl⟩) (hdb : (x == ("__debug__" : Str)) = false := by decide) : PE X (.Name x pos) (tM c W (mC d)) := by
  obtain ⟨u, hm, r⟩ := h
  exact e_c (pe_glob hgl (by rw [F.mg]; exact hm) r hdb) hd
theorem flats_of {G : Hp} : ∀ {ds : List D}, ds.all flatD = true → DRs c G ds (ds.map dV)
  | [], _ => rfl
  | d :: ds, h => by
    rw [List.all_cons, Bool.and_eq_true] at h
    refine ⟨dV d, _, rfl, ?_, flats_of h.2⟩
    cases d <;> first | exact rfl | exact nomatch h.1
theorem e_globT {ds : List D} (h : Rw.GlobT c.K c.mg x (ds.map dV)) (hf : ds.all flatD = true) (hgl : Gl X x := by rfl) (F : Fits X c := by exact ⟨rfl, rfl⟩) (hdb : (x == ("__debug__" : Str)) = false := by decide) : PE X (.Name x pos) (tM c W (mC (.kt ds))) := by
  obtain ⟨a, hm, o, its, n, h1, h2, h3, h4, h5⟩ := h
  exact ⟨fun pins s σ H Q I ⟨w, σa, st, rl, p⟩ => ld_glob I hgl (by rw [F.mg]; exact hm) ⟨.ref a, H, I, rfl, p.here rl ⟨a, _, rfl, .inr ⟨o, its, n, h1, h2, h3, h4, h5⟩, flats_of hf⟩⟩ hdb⟩
theorem e_fn {f : Addr} (h : c.mg x = some (.ref f)) (hgl : Gl X x := by rfl) (F : Fits X c := by exact ⟨rfl, rfl⟩) (hdb : (x == ("__debug__" : Str)) = false := by decide) : PE X (.Name x pos) (tM c W (mC (.fn x))) :=
  ⟨fun pins s σ H Q I ⟨w, σa, st, rl, p⟩ => ld_glob I hgl (by rw [F.mg]; exact h) ⟨.ref f, H, I, rfl, p.here rl ⟨f, h, rfl⟩⟩ hdb⟩
theorem mt_index' {K : PySem.W.Frag} (h : X.K = K) : MtR X "list.index" (rIndex K) := by rw [← h]; exact mt_index
end
end Am
/-! ### Am: reckoning with machines -/
namespace Am
open PySem PySem.Spec PyProof.Rows L2
section
variable {α β γ : Type} {σ : Slots} {st : Store} {g : MG} {b : MS} {ok : Store → Prop}
theorem bind_ok (a : α) (st : Store) (k : α → Store → Res β) : (Res.ok a st).bind k = k a st := rfl
theorem bind_ex (x : Exn) (st : Store) (k : α → Store → Res β) : (Res.ex x st).bind k = .ex x st := rfl
theorem lift_ok (a : α) (st : Store) (σ : Slots) (k : α → Store → Out) : lift (Res.ok a st) σ k = k a st := rfl
theorem lift_ex (x : Exn) (st : Store) (σ : Slots) (k : α → Store → Out) : lift (Res.ex x st) σ k = .ex x σ st := rfl
theorem need_true (r : Res α) : need True r = r := need_pos trivial
theorem needO_true (o : Out) : needO True o = o := needO_pos trivial
/-! what comes behind stays folded -/
def seqO (o : Out) (k : MS) : Out := match o with
  | .nx σ1 st1 => k σ1 st1
  | o => o
theorem mSeq_ap (m k : MS) (σ : Slots) (st : Store) : mSeq m k σ st = seqO (m σ st) k := by
  unfold mSeq seqO
  cases m σ st <;> rfl
theorem seqO_nx (σ : Slots) (st : Store) (k : MS) : seqO (.nx σ st) k = k σ st := rfl
theorem seqO_rt (a : A) (st : Store) (k : MS) : seqO (.rt a st) k = .rt a st := rfl
theorem seqO_bk (σ : Slots) (st : Store) (k : MS) : seqO (.bk σ st) k = .bk σ st := rfl
theorem seqO_ct (σ : Slots) (st : Store) (k : MS) : seqO (.ct σ st) k = .ct σ st := rfl
theorem seqO_ex (x : Exn) (σ : Slots) (st : Store) (k : MS) : seqO (.ex x σ st) k = .ex x σ st := rfl
def ifO (r : Res Bool) (m k : MS) (σ : Slots) : Out := lift r σ fun b st1 => if b then m σ st1 else k σ st1
theorem mIf_ap (t : MT) (m k : MS) (σ : Slots) (st : Store) : mIf t m k σ st = ifO (t σ st) m k σ := rfl
theorem ifO_t (st : Store) (m k : MS) (σ : Slots) : ifO (.ok true st) m k σ = m σ st := rfl
theorem ifO_f (st : Store) (m k : MS) (σ : Slots) : ifO (.ok false st) m k σ = k σ st := rfl
theorem ifO_ex (x : Exn) (st : Store) (m k : MS) (σ : Slots) : ifO (.ex x st) m k σ = .ex x σ st := rfl
theorem ifO_pos {p : Prop} [Decidable p] (h : p) (st : Store) (m k : MS) (σ : Slots) : ifO (.ok (decide p) st) m k σ = m σ st := by rw [decide_eq_true h]; rfl
theorem ifO_neg {p : Prop} [Decidable p] (h : ¬ p) (st : Store) (m k : MS) (σ : Slots) : ifO (.ok (decide p) st) m k σ = k σ st := by rw [decide_eq_false h]; rfl
def binR (r : Res A) (g : A → A → Store → Res A) (fb : ME) (σ : Slots) : Res A := r.bind fun x st1 => (fb σ st1).bind fun y st2 => g x y st2
def bin2 (r : Res A) (g : A → A → Store → Res A) (x : A) : Res A := r.bind fun y st2 => g x y st2
theorem mBin_ap (g : A → A → Store → Res A) (fa fb : ME) (σ : Slots) (st : Store) : mBin g fa fb σ st = binR (fa σ st) g fb σ := rfl
theorem binR_ok (g : A → A → Store → Res A) (fb : ME) (x : A) (σ : Slots) (st : Store) : binR (.ok x st) g fb σ = bin2 (fb σ st) g x := rfl
theorem bin2_ok (g : A → A → Store → Res A) (x y : A) (st : Store) : bin2 (.ok y st) g x = g x y st := rfl
def consR (r : Res A) (fr : MA) (σ : Slots) : Res (List A) := r.bind fun x st1 => (fr σ st1).bind fun xs st2 => .ok (x :: xs) st2
def cons2 (r : Res (List A)) (x : A) : Res (List A) := r.bind fun xs st2 => .ok (x :: xs) st2
theorem mCons_ap (fa : ME) (fr : MA) (σ : Slots) (st : Store) : mCons fa fr σ st = consR (fa σ st) fr σ := rfl
theorem consR_ok (fr : MA) (x : A) (σ : Slots) (st : Store) : consR (.ok x st) fr σ = cons2 (fr σ st) x := rfl
theorem cons2_ok (x : A) (xs : List A) (st : Store) : cons2 (.ok xs st) x = .ok (x :: xs) st := rfl
def tstR (r : Res A) : Res Bool := r.bind fun a st1 => match a with
  | .d (.bl b) => .ok b st1
  | _ => .no
theorem mTst_ap (f : ME) (σ : Slots) (st : Store) : mTst f σ st = tstR (f σ st) := by
  unfold mTst tstR
  congr 1
theorem tstR_ok (b : Bool) (st : Store) : tstR (.ok (.d (.bl b)) st) = .ok b st := rfl
def setO (r : Res A) (i : Nat) (σ : Slots) : Out := lift r σ fun a st1 => .nx (σ.set i (some a)) st1
theorem mSet_ap (i : Nat) (f : ME) (σ : Slots) (st : Store) : mSet i f σ st = setO (f σ st) i σ := rfl
theorem setO_ok (a : A) (i : Nat) (σ : Slots) (st : Store) : setO (.ok a st) i σ = .nx (σ.set i (some a)) st := rfl
theorem setO_ex (x : Exn) (i : Nat) (σ : Slots) (st : Store) : setO (.ex x st) i σ = .ex x σ st := rfl
def retO (r : Res A) (σ : Slots) : Out := lift r σ fun a st1 => .rt a st1
theorem mRet_ap (f : ME) (σ : Slots) (st : Store) : mRet f σ st = retO (f σ st) σ := rfl
theorem retO_ok (a : A) (σ : Slots) (st : Store) : retO (.ok a st) σ = .rt a st := rfl
theorem retO_ex (x : Exn) (σ : Slots) (st : Store) : retO (.ex x st) σ = .ex x σ st := rfl
def doO (r : Res A) (σ : Slots) : Out := lift r σ fun _ st1 => .nx σ st1
theorem mDo_ap (f : ME) (σ : Slots) (st : Store) : mDo f σ st = doO (f σ st) σ := rfl
theorem doO_ok (a : A) (σ : Slots) (st : Store) : doO (.ok a st) σ = .nx σ st := rfl
theorem doO_ex (x : Exn) (σ : Slots) (st : Store) : doO (.ex x st) σ = .ex x σ st := rfl
theorem mList_ap (k : Bool) (fr : MA) (σ : Slots) (st : Store) : mList k fr σ st = (fr σ st).bind (mkL k) := rfl
theorem mTup_ap (fr : MA) (σ : Slots) (st : Store) : mTup fr σ st = (fr σ st).bind mkT := rfl
theorem mCallB_ap (g : GC) (fs : MA) (σ : Slots) (st : Store) : mCallB g fs σ st = (fs σ st).bind g := rfl
theorem mCall_ap (f : MF) (fs : MA) (σ : Slots) (st : Store) : mCall f fs σ st = (fs σ st).bind f := rfl
noncomputable def slR (r : Res A) (k : Bool) (l u : MO) (σ : Slots) : Res A := r.bind fun x st1 => (l σ st1).bind fun lo st2 => (u σ st2).bind fun hi st3 => gSl k x lo hi st3
noncomputable def sl2 (r : Res (Option Int)) (k : Bool) (x : A) (u : MO) (σ : Slots) : Res A := r.bind fun lo st2 => (u σ st2).bind fun hi st3 => gSl k x lo hi st3
noncomputable def sl3 (r : Res (Option Int)) (k : Bool) (x : A) (lo : Option Int) : Res A := r.bind fun hi st3 => gSl k x lo hi st3
theorem mSl_ap (k : Bool) (f : ME) (l u : MO) (σ : Slots) (st : Store) : mSl k f l u σ st = slR (f σ st) k l u σ := rfl
theorem slR_ok (k : Bool) (x : A) (l u : MO) (σ : Slots) (st : Store) : slR (.ok x st) k l u σ = sl2 (l σ st) k x u σ := rfl
theorem sl2_ok (k : Bool) (x : A) (lo : Option Int) (u : MO) (σ : Slots) (st : Store) : sl2 (.ok lo st) k x u σ = sl3 (u σ st) k x lo := rfl
theorem sl3_ok (k : Bool) (x : A) (lo hi : Option Int) (st : Store) : sl3 (.ok hi st) k x lo = gSl k x lo hi st := rfl
def partR (r : Res A) : Res (Option Int) := r.bind fun a st1 => match a with
  | .d (.int i) => .ok (some i) st1
  | _ => .no
theorem mPart_ap (f : ME) (σ : Slots) (st : Store) : mPart f σ st = partR (f σ st) := by
  unfold mPart partR
  congr 1
theorem partR_ok (i : Int) (st : Store) : partR (.ok (.d (.int i)) st) = .ok (some i) st := rfl
def meth2 (v : Option (List A)) (g : GM) (x : A) (fs : MA) (σ : Slots) (st : Store) : Res A := match v with
  | some _ => (fs σ st).bind (g x)
  | none => .no
def methR (r : Res A) (g : GM) (fs : MA) (σ : Slots) : Res A := r.bind fun x st1 => meth2 (viewS st1 x) g x fs σ st1
theorem mMethL_ap (g : GM) (f : ME) (fs : MA) (σ : Slots) (st : Store) : mMethL g f fs σ st = methR (f σ st) g fs σ := by
  unfold mMethL methR
  congr 1
theorem methR_ok (g : GM) (x : A) (fs : MA) (σ : Slots) (st : Store) : methR (.ok x st) g fs σ = meth2 (viewS st x) g x fs σ st := rfl
theorem meth2_ok (v : List A) (g : GM) (x : A) (fs : MA) (σ : Slots) (st : Store) : meth2 (some v) g x fs σ st = (fs σ st).bind (g x) := rfl
noncomputable def forO (r : Res Walk) (g : MG) (b : MS) (σ : Slots) : Out := lift r σ fun k st1 => forA g b k.ok k.items σ st1
theorem mFor_ap (it : MI) (g : MG) (b : MS) (σ : Slots) (st : Store) : mFor it g b σ st = forO (it σ st) g b σ := rfl
theorem forO_ok (k : Walk) (g : MG) (b : MS) (σ : Slots) (st : Store) : forO (.ok k st) g b σ = forA g b k.ok k.items σ st := rfl
def augO (v : Option (Option A)) (i : Nat) (g : A → A → Store → Res A) (f : ME) (σ : Slots) (st : Store) : Out := match v with
  | some (some x) => lift (f σ st) σ fun y st1 => lift (g x y st1) σ fun z st2 => .nx (σ.set i (some z)) st2
  | _ => .no
def aug2 (r : Res A) (i : Nat) (g : A → A → Store → Res A) (x : A) (σ : Slots) : Out := lift r σ fun y st1 => lift (g x y st1) σ fun z st2 => .nx (σ.set i (some z)) st2
theorem mAug_ap (i : Nat) (g : A → A → Store → Res A) (f : ME) (σ : Slots) (st : Store) : mAug i g f σ st = augO σ[i]? i g f σ st := by
  unfold mAug augO
  rcases σ[i]? with _ | _ | _ <;> rfl
theorem augO_ok (x : A) (i : Nat) (g : A → A → Store → Res A) (f : ME) (σ : Slots) (st : Store) : augO (some (some x)) i g f σ st = aug2 (f σ st) i g x σ := rfl
theorem aug2_ok (y : A) (i : Nat) (g : A → A → Store → Res A) (x : A) (σ : Slots) (st : Store) : aug2 (.ok y st) i g x σ = setO (g x y st) i σ := rfl
noncomputable def endR (k : Nat) (st : Store) (o : Out) : Res A := match o with
  | .nx _ st1 => exitR k st (.d .non) st1
  | .rt a st1 => exitR k st a st1
  | .ex x _ st1 => need (k = 0 ∨ Trunc st st1) (.ex x (if k = 0 then st1 else st1.take st.length))
  | _ => .no
theorem mF_ap (np nn k : Nat) (m : MS) (as : List A) (st : Store) (h : as.length = np) : mF np nn k m as st = endR k st (m (as.map some ++ List.replicate (nn - as.length) none) st) := by
  unfold mF runDef endR
  rw [if_pos h] <;> (generalize m _ _ = o; cases o <;> rfl)
theorem mF_0 (nn k : Nat) (m : MS) (st : Store) : mF 0 nn k m [] st = endR k st (m ([] ++ List.replicate (nn - 0) none) st) := mF_ap _ _ _ _ _ _ rfl
theorem mF_1 (nn k : Nat) (m : MS) (a0 : A) (st : Store) : mF 1 nn k m [a0] st = endR k st (m ([some a0] ++ List.replicate (nn - 1) none) st) := mF_ap _ _ _ _ _ _ rfl
theorem mF_2 (nn k : Nat) (m : MS) (a0 a1 : A) (st : Store) : mF 2 nn k m [a0, a1] st = endR k st (m ([some a0, some a1] ++ List.replicate (nn - 2) none) st) := mF_ap _ _ _ _ _ _ rfl
theorem mF_3 (nn k : Nat) (m : MS) (a0 a1 a2 : A) (st : Store) : mF 3 nn k m [a0, a1, a2] st = endR k st (m ([some a0, some a1, some a2] ++ List.replicate (nn - 3) none) st) := mF_ap _ _ _ _ _ _ rfl
theorem mF_4 (nn k : Nat) (m : MS) (a0 a1 a2 a3 : A) (st : Store) : mF 4 nn k m [a0, a1, a2, a3] st = endR k st (m ([some a0, some a1, some a2, some a3] ++ List.replicate (nn - 4) none) st) := mF_ap _ _ _ _ _ _ rfl
theorem mF_5 (nn k : Nat) (m : MS) (a0 a1 a2 a3 a4 : A) (st : Store) : mF 5 nn k m [a0, a1, a2, a3, a4] st = endR k st (m ([some a0, some a1, some a2, some a3, some a4] ++ List.replicate (nn - 5) none) st) := mF_ap _ _ _ _ _ _ rfl
theorem mF_6 (nn k : Nat) (m : MS) (a0 a1 a2 a3 a4 a5 : A) (st : Store) : mF 6 nn k m [a0, a1, a2, a3, a4, a5] st = endR k st (m ([some a0, some a1, some a2, some a3, some a4, some a5] ++ List.replicate (nn - 6) none) st) := mF_ap _ _ _ _ _ _ rfl
theorem mF_7 (nn k : Nat) (m : MS) (a0 a1 a2 a3 a4 a5 a6 : A) (st : Store) : mF 7 nn k m [a0, a1, a2, a3, a4, a5, a6] st = endR k st (m ([some a0, some a1, some a2, some a3, some a4, some a5, some a6] ++ List.replicate (nn - 7) none) st) := mF_ap _ _ _ _ _ _ rfl
theorem mF_8 (nn k : Nat) (m : MS) (a0 a1 a2 a3 a4 a5 a6 a7 : A) (st : Store) : mF 8 nn k m [a0, a1, a2, a3, a4, a5, a6, a7] st = endR k st (m ([some a0, some a1, some a2, some a3, some a4, some a5, some a6, some a7] ++ List.replicate (nn - 8) none) st) := mF_ap _ _ _ _ _ _ rfl
theorem endR_nx (k : Nat) (st st1 : Store) (σ : Slots) : endR k st (.nx σ st1) = exitR k st (.d .non) st1 := rfl
theorem endR_rt (k : Nat) (st st1 : Store) (a : A) : endR k st (.rt a st1) = exitR k st a st1 := rfl
theorem endR_ex0 (x : Exn) (st st1 : Store) (σ : Slots) : endR 0 st (.ex x σ st1) = .ex x st1 := need_pos (.inl rfl)
def andR (r : Res Bool) (g : MT) (σ : Slots) : Res Bool := r.bind fun b st1 => if b then g σ st1 else .ok false st1
theorem mAnd_ap (f g : MT) (σ : Slots) (st : Store) : mAnd f g σ st = andR (f σ st) g σ := rfl
theorem andR_t (st : Store) (g : MT) (σ : Slots) : andR (.ok true st) g σ = g σ st := rfl
theorem andR_f (st : Store) (g : MT) (σ : Slots) : andR (.ok false st) g σ = .ok false st := rfl
def orR (r : Res Bool) (g : MT) (σ : Slots) : Res Bool := r.bind fun b st1 => if b then .ok true st1 else g σ st1
theorem mOr_ap (f g : MT) (σ : Slots) (st : Store) : mOr f g σ st = orR (f σ st) g σ := rfl
theorem orR_t (st : Store) (g : MT) (σ : Slots) : orR (.ok true st) g σ = .ok true st := rfl
theorem orR_f (st : Store) (g : MT) (σ : Slots) : orR (.ok false st) g σ = g σ st := rfl
def iteR (r : Res Bool) (f g : ME) (σ : Slots) : Res A := r.bind fun b st1 => if b then f σ st1 else g σ st1
theorem mIfE_ap (t : MT) (f g : ME) (σ : Slots) (st : Store) : mIfE t f g σ st = iteR (t σ st) f g σ := rfl
theorem iteR_t (st : Store) (f g : ME) (σ : Slots) : iteR (.ok true st) f g σ = f σ st := rfl
theorem iteR_f (st : Store) (f g : ME) (σ : Slots) : iteR (.ok false st) f g σ = g σ st := rfl
def andV (r : Res A) (g : ME) (σ : Slots) : Res A := r.bind fun a st1 => match truthA st1 a with
  | some true => g σ st1
  | some false => .ok a st1
  | none => .no
theorem andV_t (st : Store) (g : ME) (σ : Slots) : andV (.ok (.d (.bl true)) st) g σ = g σ st := rfl
theorem andV_f (st : Store) (g : ME) (σ : Slots) : andV (.ok (.d (.bl false)) st) g σ = .ok (.d (.bl false)) st := rfl
def orV (r : Res A) (g : ME) (σ : Slots) : Res A := r.bind fun a st1 => match truthA st1 a with
  | some true => .ok a st1
  | some false => g σ st1
  | none => .no
theorem orV_t (st : Store) (g : ME) (σ : Slots) : orV (.ok (.d (.bl true)) st) g σ = .ok (.d (.bl true)) st := rfl
theorem orV_f (st : Store) (g : ME) (σ : Slots) : orV (.ok (.d (.bl false)) st) g σ = g σ st := rfl
theorem mAndV_ap (f g : ME) (σ : Slots) (st : Store) : mAndV f g σ st = andV (f σ st) g σ := by
  unfold mAndV andV
  congr 1
theorem mOrV_ap (f g : ME) (σ : Slots) (st : Store) : mOrV f g σ st = orV (f σ st) g σ := by
  unfold mOrV orV
  congr 1
/-- a for loop by what holds ahead of each turn -/
theorem forA_inv {xs : List A} (I : Nat → Slots → Store → Prop) (h0 : I 0 σ st) (hok : ∀ i σ st, i ≤ xs.length → I i σ st → ok st)
    (hs : ∀ i x σ st, xs[i]? = some x → I i σ st → ∃ σ1 st1 σ2 st2, g x σ st = some (σ1, st1) ∧ (b σ1 st1 = .nx σ2 st2 ∨ b σ1 st1 = .ct σ2 st2) ∧ I (i + 1) σ2 st2) : ∃ σ' st', forA g b ok xs σ st = .nx σ' st' ∧ I xs.length σ' st' := by
  induction xs generalizing σ st I with
  | nil => exact ⟨σ, st, by rw [forA, needO_pos (hok 0 _ _ (Nat.le_refl _) h0)], h0⟩
  | cons x xs ih =>
    obtain ⟨σ1, st1, σ2, st2, e1, e2, i1⟩ := hs 0 x σ st rfl h0
    obtain ⟨σ3, st3, e3, i3⟩ := ih (fun i => I (i + 1)) i1 (fun i σ st hi h => hok (i + 1) σ st (Nat.succ_le_succ hi) h) (fun i y σ st hy h => hs (i + 1) y σ st hy h)
    refine ⟨σ3, st3, ?_, i3⟩
    rw [forA, needO_pos (hok 0 _ _ (Nat.zero_le _) h0), e1]
    rcases e2 with e2 | e2
    · simp only [e2]; exact e3
    · simp only [e2]; exact e3
theorem rangeA_get {lo s : Int} {n i : Nat} {x : A} (h : (rangeA lo n s)[i]? = some x) : i < n ∧ x = .d (.int (lo + (i : Nat) * s)) := by
  unfold rangeA at h
  rw [List.getElem?_map] at h
  obtain ⟨j, h1, h2⟩ := Option.map_eq_some_iff.mp h
  obtain ⟨hl, h3⟩ := List.getElem?_eq_some_iff.mp h1
  rw [List.length_range] at hl
  rw [List.getElem_range] at h3
  subst h3
  exact ⟨hl, h2.symm⟩
theorem rangeA_length (lo s : Int) (n : Nat) : (rangeA lo n s).length = n := by unfold rangeA; rw [List.length_map, List.length_range]
/-- .. over a range by ones -/
theorem forR_inv {lo : Int} {n : Nat} (I : Nat → Slots → Store → Prop) (h0 : I 0 σ st) (hok : ∀ i σ st, i ≤ n → I i σ st → ok st)
    (hs : ∀ i σ st, i < n → I i σ st → ∃ σ1 st1 σ2 st2, g (.d (.int (lo + (i : Nat)))) σ st = some (σ1, st1) ∧ (b σ1 st1 = .nx σ2 st2 ∨ b σ1 st1 = .ct σ2 st2) ∧ I (i + 1) σ2 st2) : ∃ σ' st', forA g b ok (rangeA lo n 1) σ st = .nx σ' st' ∧ I n σ' st' := by
  have := forA_inv (g := g) (b := b) (ok := ok) (xs := rangeA lo n 1) I h0 (fun i σ st hi h => hok i σ st (by rw [rangeA_length] at hi; exact hi) h) (fun i x σ st hx h => by
    obtain ⟨hi, rfl⟩ := rangeA_get hx
    rw [Int.mul_one]
    exact hs i σ st hi h)
  rw [rangeA_length] at this
  exact this
end
/-! ### comprehensions whose element changes nothing -/
section
variable {σ : Slots} {st : Store} {pt : Pt} {t : MT} {f : ME} {ok : Store → Prop}
theorem set_last (st : Store) (x y : Cell) : (st ++ [x]).set st.length y = st ++ [y] := by
  rw [List.set_append_right _ _ (Nat.le_refl _), Nat.sub_self]; rfl
theorem get_last (st : Store) (x : Cell) : (st ++ [x])[st.length]? = some x := by
  rw [List.getElem?_append_right (Nat.le_refl _), Nat.sub_self]; rfl
theorem lcA_map {xs : List A} (p : A → Bool) (h : A → D) (acc : List D) (hok : ∀ ds : List D, ok (st ++ [.lst (ds.map A.d)])) (hl : acc.length + xs.length ≤ SZ)
    (ht : ∀ x ∈ xs, ∀ ac : List D, ∃ σ1, pt σ x = some σ1 ∧ t σ1 (st ++ [.lst (ac.map A.d)]) = .ok (p x) (st ++ [.lst (ac.map A.d)]) ∧ (p x = true → f σ1 (st ++ [.lst (ac.map A.d)]) = .ok (.d (h x)) (st ++ [.lst (ac.map A.d)]))) :
    lcA pt t f st.length ok σ xs (st ++ [.lst (acc.map A.d)]) = .ok () (st ++ [.lst ((acc ++ (xs.filter p).map h).map A.d)]) := by
  induction xs generalizing acc with
  | nil => rw [lcA, need_pos (hok acc)]; simp
  | cons x xs ih =>
    obtain ⟨σ1, e1, e2, e3⟩ := ht x List.mem_cons_self acc
    rw [List.length_cons] at hl
    rw [lcA, need_pos (hok acc), e1]
    simp only [e2, noEx, bind_ok]
    cases hp : p x with
    | false =>
      simp only [Bool.false_eq_true, if_false]
      rw [ih acc (by omega) fun y hy => ht y (List.mem_cons_of_mem _ hy), List.filter_cons, hp]
      rfl
    | true =>
      simp only [if_true, e3 hp, noEx, bind_ok, get_last, List.length_map]
      rw [ifc_pos (by omega), set_last]
      have := ih (acc ++ [h x]) (by rw [List.length_append, List.length_singleton]; omega) fun y hy => ht y (List.mem_cons_of_mem _ hy)
      rw [List.map_append] at this
      rw [show (acc.map A.d ++ [A.d (h x)]) = acc.map A.d ++ [h x].map A.d from rfl, this, List.filter_cons, hp]
      simp
theorem trunc_app (st x : Store) : Trunc st (st ++ x) := ⟨by rw [List.length_append]; omega, fun i hi => .inl (by rw [List.getElem?_append_left hi])⟩
theorem trunc_refl (st : Store) : Trunc st st := ⟨Nat.le_refl _, fun i hi => .inl rfl⟩
theorem lcEnd_data (st : Store) (ds : List D) : lcEnd false st (st ++ [.lst (ds.map A.d)]) = .ok (.d (.list ds)) st := by
  unfold lcEnd
  rw [get_last]
  simp only [Bool.false_eq_true, if_false, allD_map]
  rw [need_pos (trunc_app st _), List.take_left']
  rfl
/-- [h x for x in xs if p x] -/
theorem mLc_map {it : MI} {vs : List Nat} {xs : List A} {st1 : Store} (p : A → Bool) (h : A → D) (hit : it σ st = .ok ⟨xs, ok⟩ st1) (hok : ∀ ds : List D, ok (st1 ++ [.lst (ds.map A.d)])) (hl : xs.length ≤ SZ)
    (ht : ∀ x ∈ xs, ∀ ac : List D, ∃ σ1, pt (wipeA σ vs) x = some σ1 ∧ t σ1 (st1 ++ [.lst (ac.map A.d)]) = .ok (p x) (st1 ++ [.lst (ac.map A.d)]) ∧ (p x = true → f σ1 (st1 ++ [.lst (ac.map A.d)]) = .ok (.d (h x)) (st1 ++ [.lst (ac.map A.d)]))) :
    mLc false vs pt it t f σ st = .ok (.d (.list ((xs.filter p).map h))) st1 := by
  unfold mLc
  rw [hit, bind_ok]
  have := lcA_map (σ := wipeA σ vs) (pt := pt) (t := t) (f := f) (ok := ok) (st := st1) p h [] hok (by simpa using hl) ht
  rw [show ([] : List D).map A.d = [] from rfl] at this
  rw [this, bind_ok, List.nil_append, lcEnd_data]
/-- .. without a test -/
theorem mLc_all {it : MI} {vs : List Nat} {xs : List A} {st1 : Store} (h : A → D) (hit : it σ st = .ok ⟨xs, ok⟩ st1) (hok : ∀ ds : List D, ok (st1 ++ [.lst (ds.map A.d)])) (hl : xs.length ≤ SZ)
    (ht : ∀ x ∈ xs, ∀ ac : List D, ∃ σ1, pt (wipeA σ vs) x = some σ1 ∧ f σ1 (st1 ++ [.lst (ac.map A.d)]) = .ok (.d (h x)) (st1 ++ [.lst (ac.map A.d)])) :
    mLc false vs pt it mYes f σ st = .ok (.d (.list (xs.map h))) st1 := by
  rw [mLc_map (fun _ => true) h hit hok hl fun x hx s => ?_, List.filter_eq_self.mpr fun _ _ => rfl]
  obtain ⟨σ1, e1, e2⟩ := ht x hx s
  exact ⟨σ1, e1, rfl, fun _ => e2⟩
/-- [h i for i in range(..)] -/
theorem mLc_range {it : MI} {j : Nat} {lo s : Int} {n : Nat} {st1 : Store} (h : Nat → D) (hit : it σ st = .ok ⟨rangeA lo n s, fun _ => True⟩ st1) (hl : n ≤ SZ)
    (ht : ∀ i < n, ∀ ac : List D, f ((wipeA σ [j]).set j (some (.d (.int (lo + (i : Nat) * s))))) (st1 ++ [.lst (ac.map A.d)]) = .ok (.d (h i)) (st1 ++ [.lst (ac.map A.d)])) :
    mLc false [j] (pt1 j) it mYes f σ st = .ok (.d (.list ((List.range n).map h))) st1 := by
  -- the element as a function of the item
  have hx : ∀ x ∈ rangeA lo n s, ∃ i < n, x = .d (.int (lo + (i : Nat) * s)) := fun x hx => by
    obtain ⟨i, hi⟩ := List.getElem?_of_mem hx
    obtain ⟨h1, h2⟩ := rangeA_get hi
    exact ⟨i, h1, h2⟩
  let hh : A → D := fun x => match f ((wipeA σ [j]).set j (some x)) (st1 ++ [.lst (([] : List D).map A.d)]) with
    | .ok (.d y) _ => y
    | _ => .non
  have e1 : ∀ i < n, hh (.d (.int (lo + (i : Nat) * s))) = h i := fun i hi => by
    show (match f ((wipeA σ [j]).set j (some (.d (.int (lo + (i : Nat) * s))))) (st1 ++ [.lst (([] : List D).map A.d)]) with | .ok (.d y) _ => y | _ => D.non) = h i
    rw [ht i hi]
  rw [mLc_all hh hit (fun _ => trivial) (by rw [rangeA_length]; exact hl) fun x hx' st => ?_]
  · congr 3
    unfold rangeA
    rw [List.map_map]
    apply List.map_congr_left
    intro i hi
    exact e1 i (List.mem_range.mp hi)
  · obtain ⟨i, hi, rfl⟩ := hx x hx'
    exact ⟨_, rfl, by rw [ht i hi, e1 i hi]⟩
end
end Am
namespace Am
open PySem PySem.Spec PyProof.Rows L2
/-! ### single steps -/
section
variable {σ : Slots} {st : Store} {x y : A}
theorem mkL_c {xs : List A} (h : xs.length ≤ SZ) : mkL true xs st = .ok (.c st.length) (st ++ [.lst xs]) := by unfold mkL; rw [ifc_pos h]; rfl
theorem mkL_d {xs : List A} {ds : List D} (hd : allD xs = some ds) (h : xs.length ≤ SZ) : mkL false xs st = .ok (.d (.list ds)) st := by unfold mkL; rw [ifc_pos h, hd]; rfl
theorem mkT_d {xs : List A} {ds : List D} (hd : allD xs = some ds) (h : xs.length ≤ SZ) : mkT xs st = .ok (.d (.tup ds)) st := by unfold mkT; rw [ifc_pos h, hd]
theorem mkL_e {xs : List A} (h : xs.length ≤ SZ) : mkL false xs st = match allD xs with | some ds => .ok (.d (.list ds)) st | none => .no := by unfold mkL; rw [ifc_pos h] <;> rfl
theorem mkT_e {xs : List A} (h : xs.length ≤ SZ) : mkT xs st = match allD xs with | some ds => .ok (.d (.tup ds)) st | none => .no := by unfold mkT; rw [ifc_pos h] <;> rfl
theorem allD_append : ∀ (xs ys : List A), allD (xs ++ ys) = (allD xs).bind fun a => (allD ys).map (a ++ ·)
  | [], ys => by rw [List.nil_append, allD, Option.bind_some]; cases allD ys <;> rfl
  | .d x :: xs, ys => by
    rw [List.cons_append, allD, allD, allD_append xs ys]
    cases allD xs with
    | none => rfl
    | some a => cases allD ys <;> rfl
  | .c _ :: _, _ => rfl
theorem allD_app {xs ys : List A} {ds es : List D} (h : allD xs = some ds) (h' : allD ys = some es) : allD (xs ++ ys) = some (ds ++ es) := by
  rw [allD_eq h, allD_eq h', ← List.map_append, allD_map]
theorem rng_ok {j : Int} (h : -(2 ^ 62) ≤ j ∧ j < 2 ^ 62) (σ : Slots) (fs : MA) (hf : fs σ st = .ok [.d (.int j)] st) : iRng1M fs σ st = .ok ⟨rangeA 0 j.toNat 1, fun _ => True⟩ st := by
  unfold iRng1M; rw [hf]; exact ifc_pos h
theorem loc_get (st : Store) (k : Nat) (L : Store) : (st ++ L)[st.length + k]? = L[k]? := by rw [List.getElem?_append_right (Nat.le_add_right _ _), Nat.add_sub_cancel_left]
theorem loc_get0 (st : Store) (L : Store) : (st ++ L)[st.length]? = L[0]? := by have := loc_get st 0 L; rwa [Nat.add_zero] at this
theorem loc_set (st : Store) (k : Nat) (L : Store) (x : Cell) : (st ++ L).set (st.length + k) x = st ++ L.set k x := by rw [List.set_append_right _ _ (Nat.le_add_right _ _), Nat.add_sub_cancel_left]
theorem loc_set0 (st : Store) (L : Store) (x : Cell) : (st ++ L).set st.length x = st ++ L.set 0 x := by have := loc_set st 0 L x; rwa [Nat.add_zero] at this
theorem loc_push (st : Store) (L : Store) (x : Cell) : st ++ L ++ [x] = st ++ (L ++ [x]) := List.append_assoc _ _ _
theorem base_get {st : Store} {k : Nat} {x : Cell} (h : st[k]? = some x) (L : Store) : (st ++ L)[k]? = some x := by rw [List.getElem?_append_left (RelS.lt h)]; exact h
theorem base_set {st : Store} {k : Nat} {x : Cell} (h : st[k]? = some x) (L : Store) (y : Cell) : (st ++ L).set k y = st.set k y ++ L := List.set_append_left _ _ (RelS.lt h)
theorem need_exit {a : A} {st L : Store} (h : ABelow st.length a) : need (Trunc st (st ++ L) ∧ ABelow st.length a) (Res.ok a ((st ++ L).take st.length)) = .ok a st := by
  rw [need_pos ⟨trunc_app _ _, h⟩, List.take_left']; rfl
theorem exitR_0 (st : Store) (a : A) (st1 : Store) : exitR 0 st a st1 = .ok a st1 := rfl
theorem exitR_2 (st : Store) (a : A) (st1 : Store) : exitR 2 st a st1 = (frz a st1).bind fun b st2 => need (Trunc st st2 ∧ ABelow st.length b) (.ok b (st2.take st.length)) := rfl
theorem exitR_3 (st : Store) (i : Nat) (st1 : Store) : exitR 3 st (.c i) st1 = (match st1[i]? with | some x => need (st.length ≤ i ∧ Trunc st st1 ∧ CBelow st.length x) (.ok (.c st.length) (st1.take st.length ++ [x])) | none => .no) := rfl
theorem exit2_d (x : D) (st L : Store) : exitR 2 st (.d x) (st ++ L) = .ok (.d x) st := by
  rw [exitR_2]
  exact need_exit (a := .d x) trivial
theorem exit2_d0 (x : D) (st : Store) : exitR 2 st (.d x) st = .ok (.d x) st := by
  have := exit2_d x st []
  rwa [List.append_nil] at this
/-- a local list, handed back -/
theorem exit2_l {L : Store} {k : Nat} {ds : List D} {xs : List A} (st : Store) (h : L[k]? = some (.lst xs)) (hd : allD xs = some ds) : exitR 2 st (.c (st.length + k)) (st ++ L) = .ok (.d (.list ds)) st := by
  have e : frz (.c (st.length + k)) (st ++ L) = .ok (.d (.list ds)) (st ++ L.set k (.fz (.list ds))) := by
    unfold frz
    simp only [loc_get, h, cellD, hd, Option.map_some, loc_set]
  rw [exitR_2, e]
  exact need_exit (a := .d _) trivial
theorem exit2_l0 {L : Store} {ds : List D} {xs : List A} (st : Store) (h : L[0]? = some (.lst xs)) (hd : allD xs = some ds) : exitR 2 st (.c st.length) (st ++ L) = .ok (.d (.list ds)) st := exit2_l (k := 0) st h hd
/-- .. as a cell of the caller's -/
theorem exit3_l {L : Store} {k : Nat} {x : Cell} (st : Store) (h : L[k]? = some x) (hb : CBelow st.length x) : exitR 3 st (.c (st.length + k)) (st ++ L) = .ok (.c st.length) (st ++ [x]) := by
  rw [exitR_3, loc_get, h]
  show need _ _ = _
  rw [need_pos ⟨Nat.le_add_right _ _, trunc_app _ _, hb⟩, List.take_left']
  rfl
theorem exit3_l0 {L : Store} {x : Cell} (st : Store) (h : L[0]? = some x) (hb : CBelow st.length x) : exitR 3 st (.c st.length) (st ++ L) = .ok (.c st.length) (st ++ [x]) := exit3_l (k := 0) st h hb
theorem cmulR (i : Int) {j : Int} (h : -(2 ^ 64) < j ∧ j < 2 ^ 64) : CMulA i j := .inl (.inr h)
theorem cmulL {i : Int} (j : Int) (h : -(2 ^ 64) < i ∧ i < 2 ^ 64) : CMulA i j := .inl (.inl h)
theorem cdivA (i : Int) {j : Int} (h : 0 < j ∧ j < 1073741824) : CDivA i j := .inl h
/-! operations at their values -/
section
variable (st : Store) (k : Bool)
theorem gAdd_i (i j : Int) : gAdd k (.d (.int i)) (.d (.int j)) st = .ok (.d (.int (i + j))) st := rfl
theorem gAdd_l (a b : List D) : gAdd k (.d (.list a)) (.d (.list b)) st = mkL k ((a ++ b).map .d) st := by
  show mkL k (a.map A.d ++ b.map A.d) st = _
  rw [List.map_append]
theorem gAdd_t (a b : List D) : gAdd k (.d (.tup a)) (.d (.tup b)) st = mkT ((a ++ b).map .d) st := rfl
theorem gAdd_cl (i : Nat) (b : List D) : gAdd k (.c i) (.d (.list b)) st = match viewL st (.c i) with | some a => mkL k (a ++ b.map .d) st | none => .no := by
  show (match viewL st (.c i), viewL st (.d (.list b)) with | some a, some b => mkL k (a ++ b) st | _, _ => .no) = _
  cases viewL st (.c i) <;> rfl
theorem gAdd_lc (i : Nat) (a : List D) : gAdd k (.d (.list a)) (.c i) st = match viewL st (.c i) with | some b => mkL k (a.map .d ++ b) st | none => .no := by
  show (match viewL st (.d (.list a)), viewL st (.c i) with | some a, some b => mkL k (a ++ b) st | _, _ => .no) = _
  cases viewL st (.c i) <;> rfl
theorem gAdd_s (a b : Str) : gAdd k (.d (.str a)) (.d (.str b)) st = need (a.length + b.length ≤ SZ) (.ok (.d (.str (a ++ b))) st) := rfl
theorem gMul_i (i j : Int) : gMul k (.d (.int i)) (.d (.int j)) st = need (CMulA i j) (.ok (.d (.int (i * j))) st) := rfl
theorem gMul_l (a : List D) (j : Int) : gMul k (.d (.list a)) (.d (.int j)) st = need (j < 2 ^ 63 ∧ -(2 ^ 63) ≤ j ∧ (a.map A.d).length * j.toNat ≤ SZ) (mkL k (List.replicate j.toNat (a.map A.d)).flatten st) := rfl
theorem viewL_l (a : List D) : viewL st (.d (.list a)) = some (a.map .d) := rfl
theorem viewL_c (i : Nat) : viewL st (.c i) = match st[i]? with | some (.lst xs) => some xs | some (.fz (.list ds)) => some (ds.map .d) | _ => none := rfl
theorem viewS_l (a : List D) : viewS st (.d (.list a)) = some (a.map .d) := rfl
theorem viewS_s (a : List D) : viewS st (.d (.scr a)) = some (a.map .d) := rfl
theorem viewS_c (i : Nat) : viewS st (.c i) = match st[i]? with | some (.lst xs) => some xs | some (.fz (.list ds)) => some (ds.map .d) | _ => none := rfl
theorem viewS_t (a : List D) : viewS st (.d (.tup a)) = none := rfl
theorem viewS_kt (a : List D) : viewS st (.d (.kt a)) = none := rfl
theorem viewS_str (a : Str) : viewS st (.d (.str a)) = none := rfl
theorem viewT_t (a : List D) : viewT (.d (.tup a)) = some a := rfl
theorem viewT_kt (a : List D) : viewT (.d (.kt a)) = some a := rfl
theorem gLen_l (a : List D) : gLen [.d (.list a)] st = .ok (.d (.int (a.length : Nat))) st := by
  show Res.ok (A.d (.int ((a.map A.d).length : Nat))) st = _
  rw [List.length_map]
theorem gLen_s (a : List D) : gLen [.d (.scr a)] st = .ok (.d (.int (a.length : Nat))) st := by
  show Res.ok (A.d (.int ((a.map A.d).length : Nat))) st = _
  rw [List.length_map]
theorem gLen_t (a : List D) : gLen [.d (.tup a)] st = .ok (.d (.int (a.length : Nat))) st := rfl
theorem gLen_kt (a : List D) : gLen [.d (.kt a)] st = .ok (.d (.int (a.length : Nat))) st := rfl
theorem gListOf_l (a : List D) : gListOf k [.d (.list a)] st = mkL k (a.map .d) st := rfl
theorem gListOf_s (a : List D) : gListOf k [.d (.scr a)] st = mkL k (a.map .d) st := rfl
theorem gListOf_t (a : List D) : gListOf k [.d (.tup a)] st = mkL k (a.map .d) st := rfl
theorem gListOf_kt (a : List D) : gListOf k [.d (.kt a)] st = mkL k (a.map .d) st := rfl
theorem gListOf_c (i : Nat) : gListOf k [.c i] st = match viewS st (.c i) with | some xs => mkL k xs st | none => .no := by
  show (match viewS st (.c i) with | some xs => mkL k xs st | none => (match viewT (.c i) with | some ds => mkL k (ds.map .d) st | none => .no)) = _
  cases viewS st (.c i) <;> rfl
theorem gTupOf_l (a : List D) : gTupOf [.d (.list a)] st = mkT (a.map .d) st := rfl
theorem gTupOf_t (a : List D) : gTupOf [.d (.tup a)] st = .ok (.d (.tup a)) st := rfl
theorem gTupOf_c (i : Nat) : gTupOf [.c i] st = match viewS st (.c i) with | some xs => mkT xs st | none => .no := rfl
theorem gIx_l (a : List D) (i : Int) : gIx (.d (.list a)) (.d (.int i)) st = match atI (a.map A.d) i with | some x => .ok x st | none => .no := rfl
theorem gIx_s (a : List D) (i : Int) : gIx (.d (.scr a)) (.d (.int i)) st = match atI (a.map A.d) i with | some x => .ok x st | none => .no := rfl
theorem gIx_t (a : List D) (i : Int) : gIx (.d (.tup a)) (.d (.int i)) st = match atI a i with | some x => .ok (.d x) st | none => .no := rfl
theorem gIx_kt (a : List D) (i : Int) : gIx (.d (.kt a)) (.d (.int i)) st = match atI a i with | some x => .ok (.d x) st | none => .no := rfl
theorem gSl_l (a : List D) (l h : Option Int) : gSl k (.d (.list a)) l h st = mkL k ((cutA a l h).map .d) st := by
  show mkL k (cutA (a.map A.d) l h) st = _
  unfold cutA
  rw [List.length_map, ← List.map_drop, ← List.map_take]
theorem gSl_t (a : List D) (l h : Option Int) : gSl k (.d (.tup a)) l h st = mkT ((cutA a l h).map .d) st := rfl
theorem gRev_l (a : List D) : gRev k (.d (.list a)) st = mkL k (a.reverse.map .d) st := by
  show mkL k (a.map A.d).reverse st = _
  rw [List.map_reverse]
/-! .. of a cell, by what it holds -/
noncomputable def lenC : Option Cell → Store → Res A
  | some (.lst xs), st => .ok (.d (.int (xs.length : Nat))) st
  | some (.dK ds), st => .ok (.d (.int (ds.length : Nat))) st
  | some (.dT ds), st => .ok (.d (.int (ds.length : Nat))) st
  | some (.fz (.list ds)), st => .ok (.d (.int (ds.length : Nat))) st
  | some (.fz (.dK ds)), st => .ok (.d (.int (ds.length : Nat))) st
  | some (.fz (.dT ds)), st => .ok (.d (.int (ds.length : Nat))) st
  | _, _ => .no
theorem gLen_c (i : Nat) : gLen [.c i] st = lenC st[i]? st := by
  show (match viewS st (.c i) with | some xs => Res.ok (A.d (.int (xs.length : Nat))) st | none => (match st[i]? with | some (.dK ds) => .ok (.d (.int (ds.length : Nat))) st | some (.dT ds) => .ok (.d (.int (ds.length : Nat))) st | some (.fz (.dK ds)) => .ok (.d (.int (ds.length : Nat))) st | some (.fz (.dT ds)) => .ok (.d (.int (ds.length : Nat))) st | _ => .no)) = _
  rw [viewS_c]
  cases st[i]? with
  | none => rfl
  | some x =>
    cases x with
    | fz d => cases d <;> first | rfl | (show Res.ok (A.d (.int ((List.map A.d _).length : Nat))) st = _; rw [List.length_map]; rfl)
    | _ => rfl
noncomputable def ixC : Option Cell → A → Store → Res A
  | some (.lst xs), .d (.int j), st => match atI xs j with | some x => .ok x st | none => .no
  | some (.dK kvs), y, st => match keyA y with
    | some k => match lookK kvs k with | some a => .ok a st | none => .no
    | none => .no
  | some (.dT kvs), y, st => match keysT y with
    | some k => match lookK kvs k with | some a => .ok a st | none => .no
    | none => .no
  | some (.fz (.list ds)), .d (.int j), st => match atI (ds.map A.d) j with | some x => .ok x st | none => .no
  | some (.fz (.dK kvs)), y, st => match keyA y with
    | some k => match lookK (kvs.map fun p => (p.1, A.d p.2)) k with | some a => .ok a st | none => .no
    | none => .no
  | some (.fz (.dT kvs)), y, st => match keysT y with
    | some k => match lookK (kvs.map fun p => (p.1, A.d p.2)) k with | some a => .ok a st | none => .no
    | none => .no
  | _, _, _ => .no
theorem gIx_c (i : Nat) (y : A) : gIx (.c i) y st = ixC st[i]? y st := by
  unfold gIx
  simp only [viewS_c, viewT, viewK, viewDT]
  cases st[i]? with
  | none => rfl
  | some x =>
    cases x with
    | lst xs => cases y with
      | c _ => rfl
      | d y => cases y <;> rfl
    | fz d => cases d <;> first | rfl | (cases y with
      | c _ => rfl
      | d y => cases y <;> rfl)
    | _ => rfl
theorem gSl_c (i : Nat) (l h : Option Int) : gSl k (.c i) l h st = match viewS st (.c i) with | some xs => mkL k (cutA xs l h) st | none => .no := by
  unfold gSl
  show (match viewS st (.c i) with | some xs => mkL k (cutA xs l h) st | none => _) = _
  cases viewS st (.c i) <;> rfl
theorem gRev_c (i : Nat) : gRev k (.c i) st = match viewS st (.c i) with | some xs => mkL k xs.reverse st | none => .no := rfl
theorem gAppend_c {i : Nat} {xs : List A} (h : st[i]? = some (.lst xs)) (y : A) (hl : xs.length < SZ) : gAppend (.c i) [y] st = .ok (.d .non) (st.set i (.lst (xs ++ [y]))) := by
  unfold gAppend
  simp only [h]
  exact ifc_pos hl
theorem gExtend_c {i : Nat} {xs ys : List A} {y : A} (h : st[i]? = some (.lst xs)) (hy : viewL st y = some ys) (hl : xs.length + ys.length ≤ SZ) : gExtend (.c i) [y] st = .ok (.d .non) (st.set i (.lst (xs ++ ys))) := by
  unfold gExtend
  simp only [h, hy]
  exact ifc_pos hl
theorem gIs_n (neg : Bool) : gIs neg (.d .non) (.d .non) st = .ok (.d (.bl (!neg))) st := rfl
theorem gIs_d {x : D} (neg : Bool) (h : x ≠ .non) : gIs neg (.d x) (.d .non) st = .ok (.d (.bl neg)) st := by
  cases x <;> first | rfl | exact absurd rfl h
theorem gIs_c (neg : Bool) (i : Nat) : gIs neg (.c i) (.d .non) st = .ok (.d (.bl neg)) st := rfl
theorem gIs_b (neg a b : Bool) : gIs neg (.d (.bl a)) (.d (.bl b)) st = .ok (.d (.bl (if neg then !decide (a = b) else decide (a = b)))) st := rfl
theorem need_d {α : Type} {p : Prop} {r : Res α} (h : p) : need p r = r := need_pos h
theorem frz_d (x : D) : frz (.d x) st = .ok (.d x) st := rfl
theorem frz_c {i : Nat} {xs : List A} (h : st[i]? = some (.lst xs)) {ds : List D} (hd : allD xs = some ds) : frz (.c i) st = .ok (.d (.list ds)) (st.set i (.fz (.list ds))) := by
  unfold frz
  simp only [h, cellD, hd, Option.map_some]
end
/-- what a turn comes to -/
def Nxt (P : Slots → Store → Prop) : Out → Prop
  | .nx σ st => P σ st
  | .ct σ st => P σ st
  | _ => False
def turn (g : MG) (b : MS) (x : A) (σ : Slots) (st : Store) : Out := match g x σ st with
  | some (σ1, st1) => b σ1 st1
  | none => .no
theorem nxt_nx (P : Slots → Store → Prop) (σ : Slots) (st : Store) : Nxt P (.nx σ st) = P σ st := rfl
theorem nxt_ct (P : Slots → Store → Prop) (σ : Slots) (st : Store) : Nxt P (.ct σ st) = P σ st := rfl
theorem turn_ex {g : MG} {b : MS} {x : A} {P : Slots → Store → Prop} (h : Nxt P (turn g b x σ st)) : ∃ σ1 st1 σ2 st2, g x σ st = some (σ1, st1) ∧ (b σ1 st1 = .nx σ2 st2 ∨ b σ1 st1 = .ct σ2 st2) ∧ P σ2 st2 := by
  unfold turn at h
  split at h
  · rename_i σ1 st1 e
    cases hb : b σ1 st1 with
    | nx σ2 st2 => rw [hb] at h; exact ⟨σ1, st1, σ2, st2, e, .inl hb, h⟩
    | ct σ2 st2 => rw [hb] at h; exact ⟨σ1, st1, σ2, st2, e, .inr hb, h⟩
    | _ => rw [hb] at h; exact h.elim
  · exact h.elim
theorem forL_nx {g : MG} {b : MS} {ok : Store → Prop} {xs : List A} {o : Out} (ho : forA g b ok xs σ st = o) (I : Nat → Slots → Store → Prop) (h0 : I 0 σ st) (hok : ∀ i σ st, i ≤ xs.length → I i σ st → ok st)
    (hs : ∀ i x σ st, xs[i]? = some x → I i σ st → Nxt (I (i + 1)) (turn g b x σ st)) : ∃ σ' st', o = .nx σ' st' ∧ I xs.length σ' st' := by
  obtain ⟨σ', st', e, h⟩ := forA_inv (g := g) (b := b) (ok := ok) (xs := xs) I h0 hok fun i x σ st hx h => turn_ex (hs i x σ st hx h)
  exact ⟨σ', st', ho.symm.trans e, h⟩
theorem forR_nx {g : MG} {b : MS} {ok : Store → Prop} {lo : Int} {n : Nat} {o : Out} (ho : forA g b ok (rangeA lo n 1) σ st = o) (I : Nat → Slots → Store → Prop) (h0 : I 0 σ st) (hok : ∀ i σ st, i ≤ n → I i σ st → ok st)
    (hs : ∀ i σ st, i < n → I i σ st → Nxt (I (i + 1)) (turn g b (.d (.int (lo + (i : Nat)))) σ st)) : ∃ σ' st', o = .nx σ' st' ∧ I n σ' st' := by
  obtain ⟨σ', st', e, h⟩ := forR_inv (g := g) (b := b) (ok := ok) (lo := lo) (n := n) I h0 hok fun i σ st hx h => turn_ex (hs i σ st hx h)
  exact ⟨σ', st', ho.symm.trans e, h⟩
end
end Am
/-! ### Am: equality of plain data -/
namespace Am
open PySem PySem.Spec PyProof.Rows L2
/-- none, whole numbers, texts, lists and tuples of such, at most n deep -/
def Pl : Nat → D → Prop
  | _, .non => True
  | _, .int _ => True
  | _, .str x => PyData.canLay0 (.str x) = true
  | n + 1, .list ds => ∀ d ∈ ds, Pl n d
  | n + 1, .tup ds => ∀ d ∈ ds, Pl n d
  | _, _ => False
theorem Pl.non (n : Nat) : Pl n .non := by cases n <;> trivial
theorem Pl.int (n : Nat) (i : Int) : Pl n (.int i) := by cases n <;> trivial
theorem Pl.str (n : Nat) {x : Str} (h : PyData.canLay0 (.str x) = true) : Pl n (.str x) := by cases n <;> exact h
theorem pls_py {n : Nat} (ih : ∀ x, Pl n x → ∃ p, D.py x = some p ∧ PyData.canLay0 p = true ∧ p.depth ≤ n) : ∀ ds : List D, (∀ d ∈ ds, Pl n d) → ∃ ps, D.pys ds = some ps ∧ PyData.canLayAll0 ps = true ∧ PyData.depthAll ps ≤ n
  | [], _ => ⟨[], rfl, rfl, Nat.zero_le _⟩
  | d :: ds, h => by
    obtain ⟨p, e1, c1, l1⟩ := ih d (h d List.mem_cons_self)
    obtain ⟨ps, e2, c2, l2⟩ := pls_py ih ds fun x hx => h x (List.mem_cons_of_mem _ hx)
    refine ⟨p :: ps, by rw [D.pys, e1, e2], by rw [PyData.canLayAll0, c1, c2]; rfl, by rw [PyData.depthAll]; omega⟩
theorem pl_py : ∀ (n : Nat) (x : D), Pl n x → ∃ p, D.py x = some p ∧ PyData.canLay0 p = true ∧ p.depth ≤ n
  | 0, x, h => by
    cases x with
    | non => exact ⟨_, by rw [D.py], rfl, Nat.le_refl _⟩
    | int i => exact ⟨_, by rw [D.py], rfl, Nat.le_refl _⟩
    | str s => exact ⟨_, by rw [D.py], h, Nat.le_refl _⟩
    | _ => exact absurd h (by unfold Pl; exact id)
  | n + 1, x, h => by
    cases x with
    | non => exact ⟨_, by rw [D.py], rfl, Nat.zero_le _⟩
    | int i => exact ⟨_, by rw [D.py], rfl, Nat.zero_le _⟩
    | str s => exact ⟨_, by rw [D.py], h, Nat.zero_le _⟩
    | list ds =>
      obtain ⟨ps, e, c, l⟩ := pls_py (pl_py n) ds h
      exact ⟨.list ps, by rw [D.py, e]; rfl, c, by rw [PyData.depth]; omega⟩
    | tup ds =>
      obtain ⟨ps, e, c, l⟩ := pls_py (pl_py n) ds h
      exact ⟨.tuple ps, by rw [D.py, e]; rfl, c, by rw [PyData.depth]; omega⟩
    | _ => exact absurd h (by unfold Pl; exact id)
theorem pys_cons {y : D} {ys : List D} {qs : List PyData} (h : D.pys (y :: ys) = some qs) : ∃ q qs', qs = q :: qs' ∧ D.py y = some q ∧ D.pys ys = some qs' := by
  rw [D.pys.eq_def] at h
  simp only at h
  split at h
  · rename_i a b
    cases h
    exact ⟨_, _, rfl, a, b⟩
  · cases h
theorem pls_eq {n : Nat} (ih : ∀ x y p q, Pl n x → Pl n y → D.py x = some p → D.py y = some q → (PyData.eqv p q = true ↔ x = y)) : ∀ (xs ys : List D) (ps qs : List PyData), (∀ d ∈ xs, Pl n d) → (∀ d ∈ ys, Pl n d) → D.pys xs = some ps → D.pys ys = some qs → (PyData.eqvAll ps qs = true ↔ xs = ys)
  | [], [], ps, qs, _, _, e1, e2 => by
    cases e1; cases e2
    exact ⟨fun _ => rfl, fun _ => rfl⟩
  | [], y :: ys, ps, qs, _, _, e1, e2 => by
    cases e1
    obtain ⟨q, qs', rfl, _, _⟩ := pys_cons e2
    exact ⟨fun h => (by cases h), fun h => (by cases h)⟩
  | x :: xs, [], ps, qs, _, _, e1, e2 => by
    cases e2
    obtain ⟨q, qs', rfl, _, _⟩ := pys_cons e1
    exact ⟨fun h => (by cases h), fun h => (by cases h)⟩
  | x :: xs, y :: ys, ps, qs, h1, h2, e1, e2 => by
    obtain ⟨p, ps', rfl, a1, a2⟩ := pys_cons e1
    obtain ⟨q, qs', rfl, b1, b2⟩ := pys_cons e2
    have i1 := ih x y p q (h1 x List.mem_cons_self) (h2 y List.mem_cons_self) a1 b1
    have i2 := pls_eq ih xs ys ps' qs' (fun d hd => h1 d (List.mem_cons_of_mem _ hd)) (fun d hd => h2 d (List.mem_cons_of_mem _ hd)) a2 b2
    rw [PyData.eqvAll, Bool.and_eq_true, i1, i2, List.cons.injEq]
theorem pl_eq : ∀ (n : Nat) (x y : D) (p q : PyData), Pl n x → Pl n y → D.py x = some p → D.py y = some q → (PyData.eqv p q = true ↔ x = y) := by
  intro n
  induction n with
  | zero =>
    intro x y p q hx hy e1 e2
    cases x with
    | non => rw [D.py] at e1; cases e1; cases y with
      | non => rw [D.py] at e2; cases e2; exact ⟨fun _ => rfl, fun _ => rfl⟩
      | int _ => rw [D.py] at e2; cases e2; exact ⟨fun h => (by cases h), fun h => (by cases h)⟩
      | str _ => rw [D.py] at e2; cases e2; exact ⟨fun h => (by cases h), fun h => (by cases h)⟩
      | _ => exact absurd hy (by unfold Pl; exact id)
    | int i => rw [D.py] at e1; cases e1; cases y with
      | non => rw [D.py] at e2; cases e2; exact ⟨fun h => (by cases h), fun h => (by cases h)⟩
      | int j => rw [D.py] at e2; cases e2; exact ⟨fun h => by rw [eq_of_beq (show (i == j) = true from h)], fun h => by cases h; exact beq_self_eq_true i⟩
      | str _ => rw [D.py] at e2; cases e2; exact ⟨fun h => (by cases h), fun h => (by cases h)⟩
      | _ => exact absurd hy (by unfold Pl; exact id)
    | str i => rw [D.py] at e1; cases e1; cases y with
      | non => rw [D.py] at e2; cases e2; exact ⟨fun h => (by cases h), fun h => (by cases h)⟩
      | str j => rw [D.py] at e2; cases e2; exact ⟨fun h => by rw [eq_of_beq (show (i == j) = true from h)], fun h => by cases h; exact beq_self_eq_true i⟩
      | int _ => rw [D.py] at e2; cases e2; exact ⟨fun h => (by cases h), fun h => (by cases h)⟩
      | _ => exact absurd hy (by unfold Pl; exact id)
    | _ => exact absurd hx (by unfold Pl; exact id)
  | succ n ih =>
    intro x y p q hx hy e1 e2
    cases x with
    | non => rw [D.py] at e1; cases e1; cases y with
      | non => rw [D.py] at e2; cases e2; exact ⟨fun _ => rfl, fun _ => rfl⟩
      | int _ => rw [D.py] at e2; cases e2; exact ⟨fun h => (by cases h), fun h => (by cases h)⟩
      | str _ => rw [D.py] at e2; cases e2; exact ⟨fun h => (by cases h), fun h => (by cases h)⟩
      | list ds => rw [D.py] at e2; obtain ⟨ps, _, rfl⟩ := Option.map_eq_some_iff.mp e2; exact ⟨fun h => (by cases h), fun h => (by cases h)⟩
      | tup ds => rw [D.py] at e2; obtain ⟨ps, _, rfl⟩ := Option.map_eq_some_iff.mp e2; exact ⟨fun h => (by cases h), fun h => (by cases h)⟩
      | _ => exact absurd hy (by unfold Pl; exact id)
    | int i => rw [D.py] at e1; cases e1; cases y with
      | non => rw [D.py] at e2; cases e2; exact ⟨fun h => (by cases h), fun h => (by cases h)⟩
      | int j => rw [D.py] at e2; cases e2; exact ⟨fun h => by rw [eq_of_beq (show (i == j) = true from h)], fun h => by cases h; exact beq_self_eq_true i⟩
      | str _ => rw [D.py] at e2; cases e2; exact ⟨fun h => (by cases h), fun h => (by cases h)⟩
      | list ds => rw [D.py] at e2; obtain ⟨ps, _, rfl⟩ := Option.map_eq_some_iff.mp e2; exact ⟨fun h => (by cases h), fun h => (by cases h)⟩
      | tup ds => rw [D.py] at e2; obtain ⟨ps, _, rfl⟩ := Option.map_eq_some_iff.mp e2; exact ⟨fun h => (by cases h), fun h => (by cases h)⟩
      | _ => exact absurd hy (by unfold Pl; exact id)
    | str i => rw [D.py] at e1; cases e1; cases y with
      | non => rw [D.py] at e2; cases e2; exact ⟨fun h => (by cases h), fun h => (by cases h)⟩
      | str j => rw [D.py] at e2; cases e2; exact ⟨fun h => by rw [eq_of_beq (show (i == j) = true from h)], fun h => by cases h; exact beq_self_eq_true i⟩
      | int _ => rw [D.py] at e2; cases e2; exact ⟨fun h => (by cases h), fun h => (by cases h)⟩
      | list ds => rw [D.py] at e2; obtain ⟨ps, _, rfl⟩ := Option.map_eq_some_iff.mp e2; exact ⟨fun h => (by cases h), fun h => (by cases h)⟩
      | tup ds => rw [D.py] at e2; obtain ⟨ps, _, rfl⟩ := Option.map_eq_some_iff.mp e2; exact ⟨fun h => (by cases h), fun h => (by cases h)⟩
      | _ => exact absurd hy (by unfold Pl; exact id)
    | list xs =>
      rw [D.py] at e1; obtain ⟨ps, a, rfl⟩ := Option.map_eq_some_iff.mp e1
      cases y with
      | non => rw [D.py] at e2; cases e2; exact ⟨fun h => (by cases h), fun h => (by cases h)⟩
      | int _ => rw [D.py] at e2; cases e2; exact ⟨fun h => (by cases h), fun h => (by cases h)⟩
      | str _ => rw [D.py] at e2; cases e2; exact ⟨fun h => (by cases h), fun h => (by cases h)⟩
      | tup ds => rw [D.py] at e2; obtain ⟨ps, _, rfl⟩ := Option.map_eq_some_iff.mp e2; exact ⟨fun h => (by cases h), fun h => (by cases h)⟩
      | list ys =>
        rw [D.py] at e2; obtain ⟨qs, b, rfl⟩ := Option.map_eq_some_iff.mp e2
        rw [D.list.injEq]
        exact pls_eq ih xs ys ps qs hx hy a b
      | _ => exact absurd hy (by unfold Pl; exact id)
    | tup xs =>
      rw [D.py] at e1; obtain ⟨ps, a, rfl⟩ := Option.map_eq_some_iff.mp e1
      cases y with
      | non => rw [D.py] at e2; cases e2; exact ⟨fun h => (by cases h), fun h => (by cases h)⟩
      | int _ => rw [D.py] at e2; cases e2; exact ⟨fun h => (by cases h), fun h => (by cases h)⟩
      | str _ => rw [D.py] at e2; cases e2; exact ⟨fun h => (by cases h), fun h => (by cases h)⟩
      | list ds => rw [D.py] at e2; obtain ⟨ps, _, rfl⟩ := Option.map_eq_some_iff.mp e2; exact ⟨fun h => (by cases h), fun h => (by cases h)⟩
      | tup ys =>
        rw [D.py] at e2; obtain ⟨qs, b, rfl⟩ := Option.map_eq_some_iff.mp e2
        rw [D.tup.injEq]
        exact pls_eq ih xs ys ps qs hx hy a b
      | _ => exact absurd hy (by unfold Pl; exact id)
    | _ => exact absurd hx (by unfold Pl; exact id)
section
variable {n : Nat} {x y : D} (st : Store)
theorem gEq_pl (hn : n ≤ 64) (hx : Pl n x) (hy : Pl n y) (neg : Bool) : ∃ b : Bool, (b = true ↔ x = y) ∧ gEq neg (.d x) (.d y) st = .ok (.d (.bl (if neg then !b else b))) st := by
  obtain ⟨p, e1, c1, l1⟩ := pl_py n x hx
  obtain ⟨q, e2, c2, l2⟩ := pl_py n y hy
  refine ⟨PyData.eqv p q, pl_eq n x y p q hx hy e1 e2, ?_⟩
  unfold gEq
  rw [show peek st (.d x) = some x from rfl, show peek st (.d y) = some y from rfl, Option.bind_some, Option.bind_some, e1, e2]
  refine need_pos ⟨?_, ?_⟩
  · unfold SeqAt.shaped
    rw [c1, decide_eq_true (Nat.le_trans l1 hn)]; rfl
  · unfold SeqAt.shaped
    rw [c2, decide_eq_true (Nat.le_trans l2 hn)]; rfl
theorem gEq_same (hx : Pl n x) (neg : Bool) (e : x = y) (hn : n ≤ 64 := by decide) : gEq neg (.d x) (.d y) st = .ok (.d (.bl (!neg))) st := by
  subst e
  obtain ⟨b, hb, e⟩ := gEq_pl st hn hx hx neg
  rw [e, hb.mpr rfl]
  cases neg <;> rfl
theorem gEq_diff (hx : Pl n x) (hy : Pl n y) (neg : Bool) (e : x ≠ y) (hn : n ≤ 64 := by decide) : gEq neg (.d x) (.d y) st = .ok (.d (.bl neg)) st := by
  obtain ⟨b, hb, e1⟩ := gEq_pl st hn hx hy neg
  rw [e1, Bool.eq_false_iff.mpr fun h => e (hb.mp h)]
  cases neg <;> rfl
theorem gEq_if (i j : Int) : gEq false (.d (.int i)) (.d (.int j)) st = .ok (.d (.bl (decide (i = j)))) st := by
  by_cases h : i = j
  · rw [gEq_same st (Pl.int 0 i) false (by rw [h]), decide_eq_true h]; rfl
  · rw [gEq_diff st (Pl.int 0 i) (Pl.int 0 j) false (fun z => h (D.int.inj z)), decide_eq_false h]
theorem gEq_it (i j : Int) : gEq true (.d (.int i)) (.d (.int j)) st = .ok (.d (.bl (decide (i ≠ j)))) st := by
  by_cases h : i = j
  · rw [gEq_same st (Pl.int 0 i) true (by rw [h]), decide_eq_false (fun z => z h)]; rfl
  · rw [gEq_diff st (Pl.int 0 i) (Pl.int 0 j) true (fun z => h (D.int.inj z)), decide_eq_true h]
theorem gEq_cd (neg : Bool) {i : Nat} {xs : List A} {ds : List D} (h : st[i]? = some (.lst xs)) (hd : allD xs = some ds) (y : D) : gEq neg (.c i) (.d y) st = gEq neg (.d (.list ds)) (.d y) st := by
  unfold gEq
  rw [show peek st (.c i) = some (.list ds) by unfold peek; simp only [h, hd, Option.map_some]]
  rfl
theorem gEq_dc (neg : Bool) {i : Nat} {xs : List A} {ds : List D} (h : st[i]? = some (.lst xs)) (hd : allD xs = some ds) (y : D) : gEq neg (.d y) (.c i) st = gEq neg (.d y) (.d (.list ds)) st := by
  unfold gEq
  rw [show peek st (.c i) = some (.list ds) by unfold peek; simp only [h, hd, Option.map_some]]
  rfl
theorem gIs_l (neg : Bool) (a : List D) : gIs neg (.d (.list a)) (.d .non) st = .ok (.d (.bl neg)) st := rfl
theorem gIs_t (neg : Bool) (a : List D) : gIs neg (.d (.tup a)) (.d .non) st = .ok (.d (.bl neg)) st := rfl
theorem gIs_i (neg : Bool) (a : Int) : gIs neg (.d (.int a)) (.d .non) st = .ok (.d (.bl neg)) st := rfl
theorem gIs_s (neg : Bool) (a : Str) : gIs neg (.d (.str a)) (.d .non) st = .ok (.d (.bl neg)) st := rfl
theorem gIs_kt (neg : Bool) (a : List D) : gIs neg (.d (.kt a)) (.d .non) st = .ok (.d (.bl neg)) st := rfl
end
section
variable {α : Type}
theorem atI_0 (x0 : α) (xs : List α) : atI (x0 :: xs) 0 = some x0 := atI_nat (j := 0) (by rfl)
theorem atI_1 (x0 x1 : α) (xs : List α) : atI (x0 :: x1 :: xs) 1 = some x1 := atI_nat (j := 1) (by rfl)
theorem atI_2 (x0 x1 x2 : α) (xs : List α) : atI (x0 :: x1 :: x2 :: xs) 2 = some x2 := atI_nat (j := 2) (by rfl)
theorem atI_3 (x0 x1 x2 x3 : α) (xs : List α) : atI (x0 :: x1 :: x2 :: x3 :: xs) 3 = some x3 := atI_nat (j := 3) (by rfl)
theorem atI_4 (x0 x1 x2 x3 x4 : α) (xs : List α) : atI (x0 :: x1 :: x2 :: x3 :: x4 :: xs) 4 = some x4 := atI_nat (j := 4) (by rfl)
theorem atI_5 (x0 x1 x2 x3 x4 x5 : α) (xs : List α) : atI (x0 :: x1 :: x2 :: x3 :: x4 :: x5 :: xs) 5 = some x5 := atI_nat (j := 5) (by rfl)
end
/-! stores into a place; turns that make cells -/
def asg2 : Option (Slots × Store) → Out
  | some (σ2, st2) => .nx σ2 st2
  | none => .no
def asgO (r : Res A) (g : MG) (σ : Slots) : Out := lift r σ fun a st1 => asg2 (g a σ st1)
theorem mAsg_ap (f : ME) (g : MG) (σ : Slots) (st : Store) : mAsg f g σ st = asgO (f σ st) g σ := by
  unfold mAsg asgO
  congr 1
theorem asgO_ok (a : A) (g : MG) (σ : Slots) (st : Store) : asgO (.ok a st) g σ = asg2 (g a σ st) := rfl
theorem asg2_some (σ : Slots) (st : Store) : asg2 (some (σ, st)) = .nx σ st := rfl
noncomputable def sub3 (o i a : A) (σ : Slots) (st : Store) : Option (Slots × Store) := match gSet o i a st with
  | some st3 => some (σ, st3)
  | none => none
noncomputable def sub2 (r : Res A) (o a : A) (σ : Slots) : Option (Slots × Store) := match r with
  | .ok i st2 => sub3 o i a σ st2
  | _ => none
noncomputable def subR (r : Res A) (fi : ME) (a : A) (σ : Slots) : Option (Slots × Store) := match r with
  | .ok o st1 => sub2 (fi σ st1) o a σ
  | _ => none
theorem kSub_ap (fo fi : ME) (a : A) (σ : Slots) (st : Store) : kSub fo fi a σ st = subR (fo σ st) fi a σ := by
  unfold kSub subR
  cases fo σ st with
  | ok o st1 =>
    show (match fi σ st1 with
      | .ok i st2 => match gSet o i a st2 with
        | some st3 => some (σ, st3)
        | none => none
      | _ => none) = sub2 (fi σ st1) o a σ
    cases fi σ st1 with
    | ok i st2 =>
      show _ = sub3 o i a σ st2
      unfold sub3
      show (match gSet o i a st2 with
        | some st3 => some (σ, st3)
        | none => none) = _
      cases gSet o i a st2 <;> rfl
    | _ => rfl
  | _ => rfl
theorem subR_ok (o : A) (st : Store) (fi : ME) (a : A) (σ : Slots) : subR (.ok o st) fi a σ = sub2 (fi σ st) o a σ := rfl
theorem sub2_ok (i : A) (st : Store) (o a : A) (σ : Slots) : sub2 (.ok i st) o a σ = sub3 o i a σ st := rfl
theorem ixN_nat {n j : Nat} (h : j < n) : ixN n (j : Int) = some j := by
  unfold ixN
  rw [if_pos (by omega), if_pos (by omega)]; simp
theorem sub3_l {k : Nat} {st : Store} {xs : List A} (h : st[k]? = some (.lst xs)) {j : Nat} (hj : j < xs.length) (a : A) (σ : Slots) : sub3 (.c k) (.d (.int (j : Nat))) a σ st = some (σ, st.set k (.lst (xs.set j a))) := by
  unfold sub3
  rw [show gSet (.c k) (.d (.int (j : Nat))) a st = some (st.set k (.lst (xs.set j a))) by
    unfold gSet
    simp only [h, ixN_nat hj]]
noncomputable def trO (st : Store) (o : Out) : Out := match o with
  | .nx σ1 st1 => needO (Trunc st st1) (.nx (σ1.map (keepA st.length)) (st1.take st.length))
  | .ct σ1 st1 => needO (Trunc st st1) (.ct (σ1.map (keepA st.length)) (st1.take st.length))
  | .bk σ1 st1 => needO (Trunc st st1) (.bk (σ1.map (keepA st.length)) (st1.take st.length))
  | o => o
theorem mTrunc_ap (m : MS) (σ : Slots) (st : Store) : mTrunc m σ st = trO st (m σ st) := by
  unfold mTrunc trO
  cases m σ st <;> rfl
theorem trO_nx (st L : Store) (σ : Slots) : trO st (.nx σ (st ++ L)) = .nx (σ.map (keepA st.length)) st := by
  show needO (Trunc st (st ++ L)) (.nx (σ.map (keepA st.length)) ((st ++ L).take st.length)) = _
  rw [needO_pos (trunc_app st L), List.take_left']
  rfl
theorem trO_ct (st L : Store) (σ : Slots) : trO st (.ct σ (st ++ L)) = .ct (σ.map (keepA st.length)) st := by
  show needO (Trunc st (st ++ L)) (.ct (σ.map (keepA st.length)) ((st ++ L).take st.length)) = _
  rw [needO_pos (trunc_app st L), List.take_left']
  rfl
theorem trO_nx0 (st : Store) (σ : Slots) : trO st (.nx σ st) = .nx (σ.map (keepA st.length)) st := by
  have := trO_nx st [] σ
  rwa [List.append_nil] at this
theorem trO_ct0 (st : Store) (σ : Slots) : trO st (.ct σ st) = .ct (σ.map (keepA st.length)) st := by
  have := trO_ct st [] σ
  rwa [List.append_nil] at this
theorem trO_rt (st st1 : Store) (a : A) : trO st (.rt a st1) = .rt a st1 := rfl
theorem trO_ex (st st1 : Store) (x : Exn) (σ : Slots) : trO st (.ex x σ st1) = .ex x σ st1 := rfl
theorem keepA_d (n : Nat) (x : D) : keepA n (some (.d x)) = some (.d x) := rfl
theorem keepA_n (n : Nat) : keepA n none = none := rfl
theorem keepA_0 (n : Nat) : keepA n (some (.c n)) = none := if_neg (Nat.lt_irrefl n)
theorem keepA_k (n k : Nat) : keepA n (some (.c (n + k))) = none := if_neg (by omega)
theorem keepA_lt {n i : Nat} (h : i < n) : keepA n (some (.c i)) = some (.c i) := if_pos h
theorem loc_len (st L : Store) : (st ++ L).length = st.length + L.length := List.length_append
/-! truth, folded -/
def truR (r : Res A) : Res Bool := r.bind fun a st1 => match truthA st1 a with
  | some b => .ok b st1
  | none => .no
theorem mTru_ap (f : ME) (σ : Slots) (st : Store) : mTru f σ st = truR (f σ st) := by
  unfold mTru truR
  congr 1
theorem truR_n (st : Store) : truR (.ok (.d .non) st) = .ok false st := rfl
theorem truR_b (b : Bool) (st : Store) : truR (.ok (.d (.bl b)) st) = .ok b st := rfl
theorem truR_i (i : Int) (st : Store) : truR (.ok (.d (.int i)) st) = .ok (i != 0) st := rfl
theorem truR_l (xs : List D) (st : Store) : truR (.ok (.d (.list xs)) st) = .ok (!xs.isEmpty) st := rfl
theorem truR_s (xs : List D) (st : Store) : truR (.ok (.d (.scr xs)) st) = .ok (!xs.isEmpty) st := rfl
theorem truR_t (xs : List D) (st : Store) : truR (.ok (.d (.tup xs)) st) = .ok (!xs.isEmpty) st := rfl
def truC (x : Option Cell) (st : Store) : Res Bool := match x with
  | some (.lst xs) => .ok (!xs.isEmpty) st
  | some (.dK xs) => .ok (!xs.isEmpty) st
  | some (.fz x) => (match truthD x with | some b => .ok b st | none => .no)
  | _ => .no
theorem truR_c (i : Nat) (st : Store) : truR (.ok (.c i) st) = truC st[i]? st := by
  cases h : st[i]? with
  | none => simp only [truR, Res.bind, truthA, truC, h]
  | some x => cases x <;> simp only [truR, Res.bind, truthA, truC, h]
theorem truC_l (xs : List A) (st : Store) : truC (some (.lst xs)) st = .ok (!xs.isEmpty) st := rfl
def notR (r : Res Bool) : Res Bool := r.bind fun b st1 => .ok (!b) st1
theorem mNot_ap (t : MT) (σ : Slots) (st : Store) : mNot t σ st = notR (t σ st) := rfl
theorem notR_ok (b : Bool) (st : Store) : notR (.ok b st) = .ok (!b) st := rfl
def notV (r : Res A) : Res A := r.bind fun a st1 => match truthA st1 a with
  | some b => .ok (.d (.bl (!b))) st1
  | none => .no
theorem mNotV_ap (f : ME) (σ : Slots) (st : Store) : mNotV f σ st = notV (f σ st) := by
  unfold mNotV notV
  congr 1
theorem notV_b (b : Bool) (st : Store) : notV (.ok (.d (.bl b)) st) = .ok (.d (.bl (!b))) st := rfl
/-! chains, folded -/
def chR (r : Res A) (g' : A → A → Store → Res A) (y : A) (fc : ME) (σ : Slots) : Res A := r.bind fun z st3 => match z with
  | .d (.bl true) => (fc σ st3).bind fun u st4 => g' y u st4
  | .d (.bl false) => .ok (.d (.bl false)) st3
  | _ => .no
def ch2 (r : Res A) (g g' : A → A → Store → Res A) (x : A) (fc : ME) (σ : Slots) : Res A := r.bind fun y st2 => chR (g x y st2) g' y fc σ
def ch1 (r : Res A) (g g' : A → A → Store → Res A) (fb fc : ME) (σ : Slots) : Res A := r.bind fun x st1 => ch2 (fb σ st1) g g' x fc σ
theorem mChain_ap (g g' : A → A → Store → Res A) (fa fb fc : ME) (σ : Slots) (st : Store) : mChain g g' fa fb fc σ st = ch1 (fa σ st) g g' fb fc σ := by
  unfold mChain ch1 ch2 chR
  congr 1
theorem ch1_ok (g g' : A → A → Store → Res A) (x : A) (fb fc : ME) (σ : Slots) (st : Store) : ch1 (.ok x st) g g' fb fc σ = ch2 (fb σ st) g g' x fc σ := rfl
theorem ch2_ok (g g' : A → A → Store → Res A) (x y : A) (fc : ME) (σ : Slots) (st : Store) : ch2 (.ok y st) g g' x fc σ = chR (g x y st) g' y fc σ := rfl
theorem chR_t (g' : A → A → Store → Res A) (y : A) (fc : ME) (σ : Slots) (st : Store) : chR (.ok (.d (.bl true)) st) g' y fc σ = bin2 (fc σ st) g' y := rfl
theorem chR_f (g' : A → A → Store → Res A) (y : A) (fc : ME) (σ : Slots) (st : Store) : chR (.ok (.d (.bl false)) st) g' y fc σ = .ok (.d (.bl false)) st := rfl
theorem chR_pos {p : Prop} [Decidable p] (h : p) (g' : A → A → Store → Res A) (y : A) (fc : ME) (σ : Slots) (st : Store) : chR (.ok (.d (.bl (decide p))) st) g' y fc σ = bin2 (fc σ st) g' y := by rw [decide_eq_true h]; rfl
theorem chR_neg {p : Prop} [Decidable p] (h : ¬ p) (g' : A → A → Store → Res A) (y : A) (fc : ME) (σ : Slots) (st : Store) : chR (.ok (.d (.bl (decide p))) st) g' y fc σ = .ok (.d (.bl false)) st := by rw [decide_eq_false h]; rfl
end Am
local macro_rules | `(tactic| walk_at "len") => `(tactic| (simp only [List.length_map, List.length_append, List.length_cons, List.length_nil, List.length_replicate, List.length_range, List.length_take, List.length_drop, List.length_reverse, List.length_set]))
local macro_rules | `(tactic| walk_at "dis") => `(tactic| first
  | assumption
  | (show (_ : Nat) ≠ _; exact Ne.symm (by assumption))
  | (show (_ : Nat) < List.length _; (simp only [List.length_set, List.length_append]); first | assumption | omega)
  | exact Am.cdivA _ (by decide)
  | (show Am.CDivA _ _; exact Am.cdivA _ ⟨by omega, by omega⟩)
  | exact Am.cmulR _ (by decide)
  | exact Am.cmulL _ (by decide)
  | exact Am.cmulR _ ⟨by omega, by omega⟩
  | exact Am.cmulL _ ⟨by omega, by omega⟩
  | (show (_ : Int) < _; first | decide | omega)
  | (show L2.CPow _ _; decide)
  | (show (_ : Nat) ≤ Am.SZ; unfold Am.SZ; (try walk_at "len"); omega)
  | (show (_ : Nat) < Am.SZ; unfold Am.SZ; (try walk_at "len"); omega)
  | (refine And.intro ?_ ?_ <;> first | omega | decide | ((walk_at "len"); omega))
  | (refine And.intro ?_ (And.intro ?_ ?_) <;> first | omega | decide | (show (_ : Nat) ≤ Am.SZ; unfold Am.SZ; (try walk_at "len"); omega))
  | exact rfl)
local macro_rules | `(tactic| walk_at "ev") => `(tactic| simp (config := { implicitDefEqProofs := false }) (disch := walk_at "dis") only [Am.mF_0, Am.mF_1, Am.mF_2, Am.mF_3, Am.mF_4, Am.mF_5, Am.mF_6, Am.mF_7, Am.mF_8, Am.endR_nx, Am.endR_rt, Am.endR_ex0, Am.mSeq_ap, Am.seqO_nx, Am.binR_ok, Am.bin2_ok, Am.consR_ok, Am.cons2_ok, Am.tstR_ok, Am.setO_ok, Am.setO_ex, Am.retO_ok, Am.retO_ex, Am.doO_ok, Am.doO_ex, Am.slR_ok, Am.sl2_ok, Am.sl3_ok, Am.partR_ok, Am.methR_ok, Am.meth2_ok, Am.forO_ok, Am.augO_ok, Am.aug2_ok, Am.seqO_rt, Am.seqO_bk, Am.seqO_ct, Am.seqO_ex, Am.ifO_t, Am.ifO_f, Am.ifO_ex, Am.andR_t, Am.andR_f, Am.orR_t, Am.orR_f, Am.iteR_t, Am.iteR_f, Am.andV_t, Am.andV_f, Am.orV_t, Am.orV_f, Am.mSet_ap, Am.mRet_ap, Am.mRetN, Am.mIf_ap, Am.mDo_ap, Am.mAsg_ap, Am.asgO_ok, Am.asg2_some, Am.mTrunc_ap, Am.trO_nx, Am.trO_nx0, Am.trO_ct, Am.trO_ct0, Am.trO_rt, Am.trO_ex, Am.keepA_d, Am.keepA_n, Am.keepA_0, Am.keepA_k, Am.mPar, Am.mSkip, Am.mCnt, Am.mBrk, Am.mFor_ap, Am.mAug_ap, Am.mAugS, Am.mVar, Am.mC, Am.mBin_ap, Am.mUn, Am.mCall_ap, Am.mCallB_ap, Am.mCons_ap, Am.mNil, Am.mList_ap, Am.mTup_ap, Am.mTst_ap, Am.mTru_ap, Am.truR_n, Am.truR_b, Am.truR_i, Am.truR_l, Am.truR_s, Am.truR_t, Am.truR_c, Am.truC_l, Am.mNot_ap, Am.notR_ok, Am.mAnd_ap, Am.mOr_ap, Am.mIfE_ap, Am.mNotV_ap, Am.notV_b, Am.mAndV_ap, Am.mOrV_ap, Am.mChain_ap, Am.ch1_ok, Am.ch2_ok, Am.chR_t, Am.chR_f, Am.mSl_ap, Am.mNoPart, Am.mPart_ap, Am.mMethL_ap, Am.mFrz, Am.mYes,
  Am.kName, Am.kTup, Am.kCons, Am.kNil, Am.kSub_ap, Am.subR_ok, Am.sub2_ok, Am.bind_ok, Am.bind_ex, Am.lift_ok, Am.lift_ex, Am.iListM, Am.iTupM, Am.iRng1M, Am.iRng2M, Am.gI0, Am.gI, Am.gNeg, Am.gInt, Am.gMin, Am.gMax,
  Am.gAdd_i, Am.gAdd_l, Am.gAdd_t, Am.gAdd_cl, Am.gAdd_lc, Am.gAdd_s, Am.gMul_i, Am.gMul_l, Am.viewL_l, Am.viewL_c, Am.viewS_l, Am.viewS_s, Am.viewS_c, Am.viewS_t, Am.viewS_kt, Am.viewS_str, Am.viewT_t, Am.viewT_kt, Am.gLen_l, Am.gLen_s, Am.gLen_t, Am.gLen_kt, Am.gLen_c, Am.lenC, Am.ixC, Am.gListOf_l, Am.gListOf_s, Am.gListOf_t, Am.gListOf_kt, Am.gListOf_c, Am.gTupOf_l, Am.gTupOf_t, Am.gTupOf_c, Am.gIx_l, Am.gIx_s, Am.gIx_t, Am.gIx_kt, Am.gIx_c, Am.gSl_l, Am.gSl_t, Am.gSl_c, Am.gRev_l, Am.gRev_c, Am.atI_0, Am.atI_1, Am.atI_2, Am.atI_3, Am.atI_4, Am.atI_5, Am.gIs_n, Am.gIs_l, Am.gIs_t, Am.gIs_i, Am.gIs_s, Am.gIs_kt, Am.gEq_if, Am.gEq_it, Am.gIs_c, Am.gIs_b, Am.frz_d, Am.gAppend, Am.gExtend, Am.gPopAt, Am.gSet, Am.gIxM,
  Am.need_pos, Am.ifc_pos, Am.needO_true, Am.truthA, Am.truthD, Am.mkL_c, Am.mkL_e, Am.mkT_e, Am.allD, Am.allD_map, Am.allD_append, Option.bind_some, List.getElem?_set_self, List.getElem?_set_ne, List.set_set, List.length_map, List.length_range, Int.toNat_natCast, Am.loc_get, Am.loc_get0, Am.loc_set, Am.loc_set0, Am.loc_push, Am.loc_len, Am.exit2_d, Am.exit2_d0, Am.exitR_0, Am.turn, Am.nxt_nx, Am.nxt_ct,
  List.length_cons, List.length_nil, List.map_cons, List.map_nil, List.cons_append, List.nil_append, List.replicate_succ, List.replicate_zero, List.getElem?_cons_zero, List.getElem?_cons_succ, List.getElem?_nil, List.set_cons_zero, List.set_cons_succ, List.append_nil, List.isEmpty_nil, List.isEmpty_cons, Nat.reduceAdd, Nat.reduceSub, Nat.add_zero, Nat.zero_add, if_pos, if_true, if_false, Bool.false_eq_true, Bool.not_true, Bool.true_and, Bool.and_true, Bool.false_and, Bool.and_false, Bool.not_false, Option.map_some, Option.map_none, decide_true, decide_false, ite_true, ite_false])
/-! ### Am: attributes of instances -/
namespace Am
open PySem PySem.Spec PyProof.Rows L2
/-- which classes are plain, and have no own attribute of the name -/
def FldT (c : Ctx) (isF : Str → Str → Bool) : Prop := ∀ (x f : Str) (C : Addr), isF x f = true → c.mg x = some (.ref C) → Cls c.K C ∧ NoAttr c.K C f
def viewI (st : Store) : A → Option (Str × List (Str × A))
  | .d (.ins x fs) => some (x, fs.map fun p => (p.1, A.d p.2))
  | .d _ => none
  | .c i => match st[i]? with
    | some (.ins x fs) => some (x, fs)
    | some (.fz (.ins x fs)) => some (x, fs.map fun p => (p.1, A.d p.2))
    | _ => none
section
variable {c : Ctx} {w : Wd} {st : Store} {H : Hp} {n : Nat}
theorem viewI_ok (rl : RelS c w st H) : ∀ {a : A} {v : V} {x : Str} {xs : List (Str × A)}, RA c w st.length v a → viewI st a = some (x, xs) → ∃ b C dx us, v = .ref b ∧ H b = some (.ins C dx us) ∧ c.mg x = some (.ref C) ∧ Paired (KD (RA c w st.length)) us xs
  | .d a, v, x, xs, r, h => by
    cases a with
    | ins y ds =>
      cases h
      obtain ⟨b, C, dx, us, rfl, e, g, p⟩ := r
      exact ⟨b, C, dx, us, rfl, rl.same _ _ e, g, kas_d p.pair⟩
    | _ => cases h
  | .c i, v, x, xs, ⟨h1, h2⟩, h => by
    have h : (match st[i]? with | some (.ins x fs) => some (x, fs) | some (.fz (.ins x fs)) => some (x, fs.map fun p => (p.1, A.d p.2)) | _ => none) = some (x, xs) := h
    split at h
    · rename_i q
      cases h
      obtain ⟨_, C, dx, us, e, g, p⟩ := rl.cell _ _ q
      exact ⟨_, C, dx, us, h2, e, g, p⟩
    · rename_i q
      cases h
      obtain ⟨⟨b, C, dx, us, e0, e, g, p⟩, _⟩ := rl.cell _ _ q
      cases e0
      exact ⟨_, C, dx, us, h2, rl.same _ _ e, g, kas_d p.pair⟩
    · cases h
theorem lookup_some {R : V → A → Prop} {f : Str} {a : A} : ∀ {us : List (Str × V)} {fs : List (Str × A)}, Paired (KD R) us fs → fs.lookup f = some a → ∃ v, us.lookup f = some v ∧ R v a
  | _, _, .nil, h => by cases h
  | (_, _) :: _, (_, _) :: _, .cons ⟨e, r⟩ t, h => by
    cases e
    rename_i k _ _ _ _
    simp only [List.lookup] at h ⊢
    cases hk : f == k with
    | true => rw [hk] at h; cases h; exact ⟨_, rfl, r⟩
    | false => rw [hk] at h; exact lookup_some t h
theorem lookup_none {R : V → A → Prop} {f : Str} : ∀ {us : List (Str × V)} {fs : List (Str × A)}, Paired (KD R) us fs → fs.lookup f = none → us.lookup f = none
  | _, _, .nil, _ => rfl
  | (_, _) :: _, (_, _) :: _, .cons ⟨e, r⟩ t, h => by
    cases e
    rename_i k _ _ _ _
    simp only [List.lookup] at h ⊢
    cases hk : f == k with
    | true => rw [hk] at h; cases h
    | false => rw [hk] at h; exact lookup_none t h
def putM (f : Str) (v : A) : List (Str × A) → List (Str × A)
  | [] => [(f, v)]
  | (g, x) :: r => if g = f then (g, v) :: r else (g, x) :: putM f v r
theorem putM_ok {R : V → A → Prop} {f : Str} {v : V} {a : A} (ra : R v a) : ∀ {us : List (Str × V)} {fs : List (Str × A)}, Paired (KD R) us fs → Paired (KD R) (putF f v us) (putM f a fs)
  | _, _, .nil => .cons ⟨rfl, ra⟩ .nil
  | (_, _) :: _, (_, _) :: _, .cons ⟨e, r⟩ t => by
    cases e
    rename_i k _ _ _ _
    unfold putF putM
    by_cases h : k = f
    · rw [if_pos h, if_pos h]; exact .cons ⟨rfl, ra⟩ t
    · rw [if_neg h, if_neg h]; exact .cons ⟨rfl, r⟩ (putM_ok ra t)
end
/-- a.f -/
def gFld (isF : Str → Str → Bool) (f : Str) : A → Store → Res A := fun a st => match viewI st a with
  | some (x, fs) => if isF x f then match fs.lookup f with
      | some v => .ok v st
      | none => .no
    else .no
  | none => .no
def mFld (isF : Str → Str → Bool) (f : Str) (fo : ME) : ME := mUn (gFld isF f) fo
/-- a.f = v -/
noncomputable def gFS (isF : Str → Str → Bool) (f : Str) : A → A → Store → Option Store := fun a v st => match a with
  | .c i => match st[i]? with
    | some (.ins x fs) => ifc (isF x f = true ∧ fs.length < 1000) (some (st.set i (.ins x (putM f v fs)))) none
    | _ => none
  | _ => none
noncomputable def mFS (isF : Str → Str → Bool) (f : Str) (fo fv : ME) : MS := fun σ st => lift (fv σ st) σ fun y st1 => lift (fo σ st1) σ fun o st2 => match gFS isF f o y st2 with
  | some st3 => .nx σ st3
  | none => .no
def clsA (st : Store) (a : A) : Option Str := (viewI st a).map (·.1)
noncomputable def mFA (isF : Str → Str → Bool) (f : Str) (g : A → A → Store → Res A) (fo fv : ME) : MS := fun σ st => lift (fo σ st) σ fun o st1 => lift (gFld isF f o st1) σ fun x st2 => lift (fv σ st2) σ fun y st3 => lift (g x y st3) σ fun z st4 => match gFS isF f o z st4 with
  | some st5 => needO (clsA st4 o = clsA st1 o) (.nx σ st5)
  | none => .no
section
variable {X : Cx} {c : Ctx} {W : WX} {e o : Expr} {fo fv : ME} {pos pos' tpos : Pos} {isF : Str → Str → Bool} {f : Str}
theorem gFld_at (T : FldT c isF) {w : Wd} {st st1 : Store} {H : Hp} (rs : RelS c w st H) {a x : A} {v : V} (ra : RA c w st.length v a) (h : gFld isF f a st = .ok x st1) :
    st1 = st ∧ ∃ b C dx us u, v = .ref b ∧ H b = some (.ins C dx us) ∧ (∃ y, clsA st a = some y ∧ c.mg y = some (.ref C)) ∧ Cls c.K C ∧ NoAttr c.K C f ∧ us.lookup f = some u ∧ RA c w st.length u x := by
  unfold gFld at h
  split at h
  · rename_i y fs hv
    split at h
    · rename_i hf
      obtain ⟨b, C, dx, us, rfl, e, g, p⟩ := viewI_ok rs ra hv
      split at h
      · rename_i z hl
        cases h
        obtain ⟨u, hu, r⟩ := lookup_some p hl
        obtain ⟨t1, t2⟩ := T y f C hf g
        exact ⟨rfl, b, C, dx, us, u, rfl, e, ⟨y, by unfold clsA; rw [hv]; rfl, g⟩, t1, t2, hu, r⟩
      · cases h
    · cases h
  · cases h
theorem gFld_ok {a : A} {st : Store} : (∃ x, gFld isF f a st = .ok x st) ∨ gFld isF f a st = .no := by
  unfold gFld
  split
  · split
    · split
      · exact .inl ⟨_, rfl⟩
      · exact .inr rfl
    · exact .inr rfl
  · exact .inr rfl
theorem e_fld (T : FldT c isF) (h : PE X e (tM c W fo)) (F : Fits X c := by exact ⟨rfl, rfl⟩) (hb : attributeBase e f X.env (eval e X.env) = eval e X.env := by rfl) : PE X (.Attribute e f pos) (tM c W (mFld isF f fo)) :=
  pe_imp (pe_fld h hb) fun σ H Q ⟨w, σa, st, rl, q⟩ => ⟨w, σa, st, rl, q.bind fun v a st1 w1 H1 _ rl1 ra p1 => by
    rcases gFld_ok (isF := isF) (f := f) (a := a) (st := st1) with ⟨x, e1⟩ | e1
    · rw [e1] at p1
      obtain ⟨_, b, C, dx, us, u, rfl, e, _, t1, t2, hu, r⟩ := gFld_at T rl1.rs ra e1
      rw [← F.K] at t1 t2
      exact ⟨b, C, dx, us, u, rfl, e, t1, t2, hu, p1.here rl1 r⟩
    · rw [e1] at p1
      exact p1.elim⟩
theorem gFS_ok (T : FldT c isF) {w : Wd} {σa : Slots} {st st' : Store} {σ : L2.St} {H : Hp} {a y : A} {va vy : V} (rl : Rel c w σa st σ H) (ra : RA c w st.length va a) (ry : RA c w st.length vy y) (h : gFS isF f a y st = some st') :
    ∃ b C dx us, va = .ref b ∧ H b = some (.ins C dx us) ∧ (∃ y, clsA st a = some y ∧ c.mg y = some (.ref C)) ∧ Cls c.K C ∧ NoAttr c.K C f ∧ us.length < 1000 ∧ st'.length = st.length ∧ Rel c w σa st' σ (upd H b (.ins C dx (putF f vy us))) := by
  unfold gFS at h
  simp only [ifc] at h
  split at h
  · split at h
    · rename_i hk
      split at h
      · rename_i hc
        cases h
        obtain ⟨g, C, dx, us, e, m, p⟩ := rl.rs.cell _ _ hk
        obtain ⟨t1, t2⟩ := T _ f C hc.1 m
        obtain ⟨_, rfl⟩ := ra
        exact ⟨_, C, dx, us, rfl, e, ⟨_, by unfold clsA viewI; simp only [hk, Option.map_some], m⟩, t1, t2, by rw [p.length]; exact hc.2, List.length_set, rl.write hk g ⟨g, C, dx, _, upd_same, m, putM_ok ry p⟩⟩
      · cases h
    · cases h
  · cases h
theorem s_fld (T : FldT c isF) (ho : PE X o (tM c W fo)) (hv : PE X e (tM c W fv)) (F : Fits X c := by exact ⟨rfl, rfl⟩) (hs : swapsWith e (some (.Attribute o f pos')) pos.line X.env = pure false := by rfl) : PS X (.Assign [.Attribute o f pos'] e pos) (tMS c W (mFS isF f fo fv)) :=
  ps_imp (ps_fld ho hv hs) fun D σ H ⟨w, σa, st, rl, q⟩ => ⟨w, σa, st, rl, PostO.lift q fun vy y st1 w1 H1 e1 rl1 ry p1 => ⟨w1, σa, st1, rl1, PostO.lift p1 fun va a st2 w2 H2 e2 rl2 ra p2 => by
    split at p2
    · rename_i st3 hg
      obtain ⟨b, C, dx, us, rfl, e, _, t1, t2, l, hl, rl3⟩ := gFS_ok T rl2 ra (ry.ext e2) hg
      rw [← F.K] at t1 t2
      exact ⟨b, C, dx, us, rfl, e, t1, t2, l, p2 _ w2 _ (by rw [hl]; exact Ext.refl _ _) rl3⟩
    · exact p2.elim⟩⟩
theorem s_fldaug (T : FldT c isF) {op : Operator} {r : R2} {gg : A → A → Store → Res A} (ho : PE X o (tM c W fo)) (hv : PE X e (tM c W fv)) (hp : InOp X op r) (hg : OpA c r gg) (F : Fits X c := by exact ⟨rfl, rfl⟩) :
    PS X (.AugAssign (.Attribute o f tpos) op e pos) (tMS c W (mFA isF f gg fo fv)) :=
  ps_imp (ps_fldaug ho hv hp) fun D σ H ⟨w, σa, st, rl, q⟩ => ⟨w, σa, st, rl, PostO.lift q fun va a st1 w1 H1 e1 rl1 ra p1 => by
    rcases gFld_ok (isF := isF) (f := f) (a := a) (st := st1) with ⟨x, h1⟩ | h1
    · rw [h1] at p1
      obtain ⟨_, b, C, dx, us, u, rfl, e, ⟨y1, hy1, m1⟩, t1, t2, hu, rx⟩ := gFld_at T rl1.rs ra h1
      rw [← F.K] at t1 t2
      refine ⟨b, C, dx, us, u, rfl, e, t1, t2, hu, w1, σa, st1, rl1, PostO.lift (show PostO c w1 st1.length W D (lift (fv σa st1) σa _) from p1) fun vy y st2 w2 H2 e2 rl2 ry p2 => hg w2 σa st2 σ H2 x y u vy W _ rl2 (rx.ext e2) ry (PostO.lift p2 fun vz z st3 w3 H3 e3 rl3 rz p3 => ?_)⟩
      split at p3
      · rename_i st4 hs
        obtain ⟨hc, p3⟩ := PostO.need p3
        obtain ⟨b', C', dx', us', eb, e', ⟨y2, hy2, m2⟩, _, _, l, hl, rl4⟩ := gFS_ok T rl3 ((ra.ext e2).ext e3) rz hs
        cases eb
        rw [hy2, hy1] at hc
        cases hc
        rw [m1] at m2
        cases m2
        exact ⟨dx', us', e', l, p3 _ w3 _ (by rw [hl]; exact Ext.refl _ _) rl4⟩
      · exact p3.elim
    · rw [h1] at p1
      exact p1.elim⟩
end
end Am
/-! ### Am: methods and constructors of own classes -/
namespace Am
open PySem PySem.Spec PyProof.Rows L2
/-- the class x has the method m, which keeps sp -/
def HasM (P : Program) (w : World) (K : PySem.W.Frag) (mg : Str → Option Value) (base : Heap) (CX : CXT) (k : Nat) (x m : Str) (ps : List Str) (sp : Sp) : Prop :=
  ∃ (C f : Addr) (fd : FuncData), mg x = some (.ref C) ∧ Cls K C ∧ Meth K C m f ∧ Binds K fd ps [] ∧ FnOk P w K mg base CX k f fd ps sp
/-- a method's text -/
def DefM (K : PySem.W.Frag) (mg : Str → Option Value) (x m qual : Str) (st : Stmt) (ps : List Str) : Prop :=
  ∃ (C f : Addr) (fd : FuncData), mg x = some (.ref C) ∧ Cls K C ∧ Meth K C m f ∧ Fun K m qual st f fd ∧ Binds K fd ps []
/-- the class x may be made -/
def MkC (K : PySem.W.Frag) (mg : Str → Option Value) (x : Str) : Prop := ∃ C, mg x = some (.ref C) ∧ PySem.W.makesIn K C = true ∧ PySem.W.keepIn K (.ref C) = true
section
variable {P : Program} {w : World} {K : PySem.W.Frag} {mg : Str → Option Value} {base : Heap} {k : Nat} {x m qual : Str} {st : Stmt} {ps N : List Str}
theorem def_hasM {b : MS} (np nn ex : Nat) (D : DefM K mg x m qual st ps) (S : FnScope N ps (defScope st)) (hp : ps.length = np) (hn : N.length = nn)
    (hbody : ∀ (f : Addr) (cdv : Value) (A : Around) (outer : List Env) (s : Shared) (H : Hp) (E : XK), Room k (A.deeper (envOfC qual (defScope st) s.heap.objs.size f cdv)) →
      Takes (cxOf (L2.CX P w) P w K mg base N qual (defScope st) f cdv A outer s H E) (fun cls d _ H => E cls d H) →
      PSs (cxOf (L2.CX P w) P w K mg base N qual (defScope st) f cdv A outer s H E) (defBody st) (tMS ⟨K, mg⟩ (fun cls d _ H => E cls d H) b)) :
    HasM P w K mg base (L2.CX P w) (k + 1) x m ps (spM ⟨K, mg⟩ (mF np nn ex b)) := by
  obtain ⟨C, f, fd, g, cl, mt, F, bd⟩ := D
  exact ⟨C, f, fd, g, cl, mt, bd, def_fn np nn ex F S hp hn (hbody f)⟩
theorem HasM.mono {CX : CXT} {sp : Sp} {j : Nat} (h : HasM P w K mg base CX j x m ps sp) (l : j ≤ k) : HasM P w K mg base CX k x m ps sp :=
  let ⟨C, f, fd, g, cl, mt, bd, F⟩ := h
  ⟨C, f, fd, g, cl, mt, bd, F.mono l⟩
end
/-- o.m(..), what is raised wished for at the caller's slots -/
def tMethT (C : Addr) (m : Str) (sp : Sp) (E : L2.St → XK) (ta : TE) (t : TA) : TE := fun σ H Q => ta σ H fun x H1 => ∃ a dx fs, x = .ref a ∧ H1 a = some (.ins C dx fs) ∧ fs.lookup m = none ∧ t σ H1 fun vs H2 => sp (x :: vs) H2 Q (E σ)
def tMakeT (C : Addr) (sp : Sp) (E : L2.St → XK) (t : TA) : TE := fun σ H Q => t σ H fun vs H1 => ∀ x dx, H1 x = none → H1 dx = none → dx ≠ x → sp (.ref x :: vs) (upd (upd H1 dx (.own x)) x (.ins C dx [])) (fun v H2 => v = .non ∧ Q (.ref x) H2) (E σ)
section
variable {X : Cx} {CX : CXT} {k : Nat} {g C : Addr} {fd : FuncData} {ps : List Str} {sp : Sp} {E : L2.St → XK} {x m : Str} {p pos apos : Pos} {e o : Expr} {es : List Expr} {ta : TE} {t : TA}
theorem pe_methT {pl : Sem Bool} (ho : PE X o ta) (cl : Cls X.K C) (mt : Meth X.K C m g) (F : FnOk X.prog X.w X.K X.mg X.base CX k g fd ps sp) (room : Room k X.A) (bd : Binds X.K fd ps []) (px : ∀ σ, PassesAt CX X σ (E σ)) (has : PA X (e :: es) t)
    (star : starEach (e :: es) X.env = (false, eval e X.env) :: starEach es X.env := by rfl) (back : (backTo pos (starEach es X.env)).any (·.1) = false := by rfl)
    (text : eval (.Call (.Attribute o m apos) (e :: es) [] pos) X.env = (do
      let y ← eval o X.env
      standAt apos.atName
      let (f, first) ← holding [y] (getMethod y m pl)
      callWith pos f first (backTo pos (starEach (e :: es) X.env)) (backToKw pos (keywordEach [] X.env))) := by rfl) : PE X (.Call (.Attribute o m apos) (e :: es) [] pos) (tMethT C m sp E ta t) where
  run := fun pins s σ H Q I h => PySem.W.methodCall_KW (pl := pl) (thn (ho.run pins s σ H _ I h) fun ov s1 ⟨v, H1, I1, rv, a, dx, fs, hv, ha, hl, q⟩ => by
    cases hv
    have z : ov = Value.ref a := rv
    cases z
    refine getmeth_ok I1 ha cl mt hl ?_
    refine PySem.W.callWith_K (first := [.ref a]) (h₀ := X.base) I.ok.mod.kin mt.kp ?_ star back
    exact thn (has.run pos pins s1 σ H1 _ I1 q) fun us s2 ⟨vs, H2, I2, r, q2⟩ => ⟨I2.kIn, run_fnSD (us := Value.ref a :: us) (vs := V.ref a :: vs) (dvs := []) F room bd .nil (px σ) I2 (.cons rfl r) (by rw [List.append_nil]; exact q2)⟩) text
theorem pe_methT0 {pl : Sem Bool} (ho : PE X o ta) (cl : Cls X.K C) (mt : Meth X.K C m g) (F : FnOk X.prog X.w X.K X.mg X.base CX k g fd ps sp) (room : Room k X.A) (bd : Binds X.K fd ps []) (px : ∀ σ, PassesAt CX X σ (E σ))
    (text : eval (.Call (.Attribute o m apos) [] [] pos) X.env = (do
      let y ← eval o X.env
      standAt apos.atName
      let (f, first) ← holding [y] (getMethod y m pl)
      callWith pos f first (backTo pos (starEach [] X.env)) (backToKw pos (keywordEach [] X.env))) := by rfl) : PE X (.Call (.Attribute o m apos) [] [] pos) (tMethT C m sp E ta tNil) where
  run := fun pins s σ H Q I h => PySem.W.methodCall_KW (pl := pl) (thn (ho.run pins s σ H _ I h) fun ov s1 ⟨v, H1, I1, rv, a, dx, fs, hv, ha, hl, q⟩ => by
    cases hv
    have z : ov = Value.ref a := rv
    cases z
    refine getmeth_ok I1 ha cl mt hl ?_
    exact PySem.W.callWith_K0 (first := [.ref a]) I1.kIn mt.kp (run_fnSD (us := [Value.ref a]) (vs := [V.ref a]) (dvs := []) F room bd .nil (px σ) I1 (.cons rfl .nil) q)) text
theorem run_makeT {pins : List (Addr × Obj)} {σ : L2.St} {H : Hp} {s : Shared} {Q : VK} {us : List Value} {vs : List V} (M : Mk X.K C g) (F : FnOk X.prog X.w X.K X.mg X.base CX k g fd ps sp) (room : Room (k + 1) X.A) (bd : Binds X.K fd ps []) (px : PassesAt CX X σ (E σ)) (I : Inv X pins σ H s) (r : Vals vs us)
    (h : ∀ y dx, H y = none → H dx = none → dx ≠ y → sp (.ref y :: vs) (upd (upd H dx (.own y)) y (.ins C dx [])) (fun v H2 => v = .non ∧ Q (.ref y) H2) (E σ)) : wpAny (model X.prog X.w) X.A (call (.ref C) us) (EP X pins σ Q) X.xe s := by
  obtain ⟨n, hn⟩ : ∃ n, n = s.heap.objs.size := ⟨_, rfl⟩
  have q := h (n + 1) n (I.hok.fresh (by rw [hn]; exact Nat.le_succ _)) (I.hok.fresh (by rw [hn]; exact Nat.le_refl _)) (Nat.ne_of_lt (Nat.lt_succ_self n))
  subst hn
  have J := Inv.made (C := C) I
  have rr : Vals (V.ref (s.heap.objs.size + 1) :: vs) (Value.ref (s.heap.objs.size + 1) :: us) := .cons rfl r
  have len : (Value.ref (s.heap.objs.size + 1) :: us ++ []).length = ps.length := by rw [List.append_nil, ← rr.length]; exact F.len _ _ _ _ q
  have bnd := bd _ (Value.ref (s.heap.objs.size + 1) :: us) J.kIn len
  rw [List.append_nil] at bnd
  refine wpAny_call (make_map (f := g) I.kIn M.makes M.init (beq_iff_eq.mp M.fn) (codeAny_mono (F.run _ X.stack _ _ ⟨Value.ref (s.heap.objs.size + 1) :: us, []⟩ _ _ _ (E σ) (room.make C us []) (J.env0.make C us []) bnd rr q) fun z s2 hz => ?_))
  cases z with
  | ok fl =>
    cases fl with
    | ret u =>
      obtain ⟨v, H2, J2, rv, ev, q2⟩ := J.after hz
      subst ev
      exact ⟨rv, ⟨V.ref (s.heap.objs.size + 1), H2, J2, rfl, q2⟩⟩
    | _ => exact hz.elim
  | error z => exact px pins _ _ z s2 J hz
theorem pe_makeT (M : Mk X.K C g) (F : FnOk X.prog X.w X.K X.mg X.base CX k g fd ps sp) (room : Room (k + 1) X.A) (gl : Gl X x) (at_ : X.mg x = some (.ref C)) (bd : Binds X.K fd ps []) (px : ∀ σ, PassesAt CX X σ (E σ)) (has : PA X (e :: es) t) (nd : (x == ("__debug__" : Str)) = false := by decide)
    (star : starEach (e :: es) X.env = (false, eval e X.env) :: starEach es X.env := by rfl) (back : (backTo pos (starEach es X.env)).any (·.1) = false := by rfl) : PE X (.Call (.Name x p) (e :: es) [] pos) (tMakeT C sp E t) where
  run := fun pins s σ H Q I h => wpAny_Call_Name_kw (ld_glob I gl at_ (PySem.W.callWith_K (h₀ := X.base) I.ok.mod.kin M.kp (thn (has.run pos pins s σ H _ I h) fun us s1 ⟨vs, H1, J, r, q⟩ => ⟨J.kIn, run_makeT M F room bd (px σ) J r q⟩) star back) nd)
theorem pe_makeT0 (M : Mk X.K C g) (F : FnOk X.prog X.w X.K X.mg X.base CX k g fd ps sp) (room : Room (k + 1) X.A) (gl : Gl X x) (at_ : X.mg x = some (.ref C)) (bd : Binds X.K fd ps []) (px : ∀ σ, PassesAt CX X σ (E σ)) (nd : (x == ("__debug__" : Str)) = false := by decide) : PE X (.Call (.Name x p) [] [] pos) (tMakeT C sp E tNil) where
  run := fun pins s σ H Q I h => wpAny_Call_Name_kw (ld_glob I gl at_ (PySem.W.callWith_K0 I.kIn M.kp (run_makeT (us := []) M F room bd (px σ) I .nil h)) nd)
end
/-! as machines -/
def mMeth (x m : Str) (f : MF) (fo : ME) (fs : MA) : ME := fun σ st => (fo σ st).bind fun a st1 => match viewI st1 a with
  | some (y, flds) => if y = x ∧ flds.lookup m = none then (fs σ st1).bind fun as st2 => f (a :: as) st2 else .no
  | none => .no
/-- C(..): a new cell, then __init__ on it -/
def mMake (x : Str) (f : MF) (fs : MA) : ME := fun σ st => (fs σ st).bind fun as st1 => (f (.c st1.length :: as) (st1 ++ [.ins x []])).bind fun r st2 => match r with
  | .d .non => .ok (.c st1.length) st2
  | _ => .no
section
variable {X : Cx} {c : Ctx} {W : WX} {e o : Expr} {es : List Expr} {fo : ME} {fs : MA} {f : MF} {k : Nat} {ps : List Str} {x m : Str} {p pos apos : Pos}
theorem Post.of_run {w : Wd} {σa : Slots} {st : Store} {σ : L2.St} {H : Hp} {Q : VK} (rl : Rel c w σa st σ H) : ∀ {r : Res A}, Post c w st.length σa σ (RA c) W Q r → EndR c w st.length Q (fun cls d H => W cls d σ H) r
  | .ok _ _, p => fun v w1 H1 e rs ra => p v w1 H1 e (rl.of e rs) ra
  | .ex _ _, p => fun cls d w1 H1 e rs rx => p cls d w1 H1 e (rl.of e rs) rx
  | .no, p => p
theorem entail_meth {C : Addr} (hx : c.mg x = some (.ref C)) (σ : L2.St) (H : Hp) (Q : VK) : tM c W (mMeth x m f fo fs) σ H Q → tMethT C m (spM c f) (fun σ cls d H => W cls d σ H) (tM c W fo) (tMA c W fs) σ H Q := fun ⟨w, σa, st, rl, q⟩ =>
  ⟨w, σa, st, rl, q.bind fun v a st1 w1 H1 _ rl1 ra p1 => by
    split at p1
    · rename_i y flds hv
      split at p1
      · rename_i hc
        obtain ⟨b, C', dx, us, rfl, e, g, pr⟩ := viewI_ok rl1.rs ra hv
        rw [hc.1, hx] at g
        cases g
        refine ⟨b, dx, us, rfl, e, lookup_none pr hc.2, w1, σa, st1, rl1, p1.bind fun vs as st2 w2 H2 e2 rl2 rs p2 => ?_⟩
        have z := Post.of_run rl2 p2
        exact ⟨w2, st2, a :: as, rl2.rs, .cons (ra.ext e2) rs, z⟩
      · exact p1.elim
    · exact p1.elim⟩
theorem entail_meth0 {C : Addr} (hx : c.mg x = some (.ref C)) (σ : L2.St) (H : Hp) (Q : VK) : tM c W (mMeth x m f fo mNil) σ H Q → tMethT C m (spM c f) (fun σ cls d H => W cls d σ H) (tM c W fo) tNil σ H Q := fun ⟨w, σa, st, rl, q⟩ =>
  ⟨w, σa, st, rl, q.bind fun v a st1 w1 H1 _ rl1 ra p1 => by
    split at p1
    · rename_i y flds hv
      split at p1
      · rename_i hc
        obtain ⟨b, C', dx, us, rfl, e, g, pr⟩ := viewI_ok rl1.rs ra hv
        rw [hc.1, hx] at g
        cases g
        have p1 : Post c w1 st1.length σa σ (RA c) W Q (f [a] st1) := p1
        have z := Post.of_run rl1 p1
        exact ⟨b, dx, us, rfl, e, lookup_none pr hc.2, w1, st1, [a], rl1.rs, .cons ra .nil, z⟩
      · exact p1.elim
    · exact p1.elim⟩
theorem e_meth {pl : Sem Bool} (h : HasM X.prog X.w X.K X.mg X.base (L2.CX X.prog X.w) k x m ps (spM c f)) (hr : Room k X.A) (tk : Takes X W) (ho : PE X o (tM c W fo)) (ha : PA X (e :: es) (tMA c W fs)) (F : Fits X c := by exact ⟨rfl, rfl⟩)
    (star : starEach (e :: es) X.env = (false, eval e X.env) :: starEach es X.env := by rfl) (back : (backTo pos (starEach es X.env)).any (·.1) = false := by rfl)
    (text : eval (.Call (.Attribute o m apos) (e :: es) [] pos) X.env = (do
      let y ← eval o X.env
      standAt apos.atName
      let (f, first) ← holding [y] (getMethod y m pl)
      callWith pos f first (backTo pos (starEach (e :: es) X.env)) (backToKw pos (keywordEach [] X.env))) := by rfl) : PE X (.Call (.Attribute o m apos) (e :: es) [] pos) (tM c W (mMeth x m f fo fs)) := by
  obtain ⟨C, g, fd, hx, cl, mt, bd, ok⟩ := h
  exact pe_imp (pe_methT (pl := pl) ho cl mt ok hr bd (fun σ => passAtM tk σ) ha star back text) (entail_meth (F.mg ▸ hx))
theorem e_meth0 {pl : Sem Bool} (h : HasM X.prog X.w X.K X.mg X.base (L2.CX X.prog X.w) k x m ps (spM c f)) (hr : Room k X.A) (tk : Takes X W) (ho : PE X o (tM c W fo)) (F : Fits X c := by exact ⟨rfl, rfl⟩)
    (text : eval (.Call (.Attribute o m apos) [] [] pos) X.env = (do
      let y ← eval o X.env
      standAt apos.atName
      let (f, first) ← holding [y] (getMethod y m pl)
      callWith pos f first (backTo pos (starEach [] X.env)) (backToKw pos (keywordEach [] X.env))) := by rfl) : PE X (.Call (.Attribute o m apos) [] [] pos) (tM c W (mMeth x m f fo mNil)) := by
  obtain ⟨C, g, fd, hx, cl, mt, bd, ok⟩ := h
  exact pe_imp (pe_methT0 (pl := pl) ho cl mt ok hr bd (fun σ => passAtM tk σ) text) (entail_meth0 (F.mg ▸ hx))
theorem entail_make {C : Addr} (hx : c.mg x = some (.ref C)) (σ : L2.St) (H : Hp) (Q : VK) : tM c W (mMake x f fs) σ H Q → tMakeT C (spM c f) (fun σ cls d H => W cls d σ H) (tMA c W fs) σ H Q := fun ⟨w, σa, st, rl, q⟩ =>
  ⟨w, σa, st, rl, q.bind fun vs as st1 w1 H1 _ rl1 rs p1 y dx hy hd ne => by
    have g1 : w1.G dx = none := rl1.rs.same.free hd
    have r2 := rl1.rs.put (o := HO.own y) hd
    have hy2 : upd H1 dx (.own y) y = none := by rw [upd_ne (Ne.symm ne)]; exact hy
    have r3 := r2.push (o := HO.ins C dx []) (x := .ins x []) hy2 ⟨r2.same.free hy2, C, dx, [], upd_same, hx, .nil⟩
    have ex : Ext w1 st1.length (((w1.put dx (.own y)).cell st1.length y)) (st1.length + 1) := (w1.put_ext g1).trans (Wd.cell_ext _ _ _)
    refine ⟨_, st1 ++ [.ins x []], .c st1.length :: as, r3, ?_, ?_⟩
    · rw [List.length_append]
      exact .cons ⟨Nat.lt_succ_self _, by rw [Wd.cell_at]⟩ (ras_ext ex rs)
    · cases hf : f (.c st1.length :: as) (st1 ++ [.ins x []]) with
      | ok a st2 =>
        rw [hf] at p1
        intro v w2 H2 e2 rs2 ra
        rw [List.length_append] at e2
        have last : RA c w2 st2.length (.ref y) (.c st1.length) := RA.ext (n := st1.length + 1) e2 (v := .ref y) (a := .c st1.length) ⟨Nat.lt_succ_self _, by rw [Wd.cell_at]⟩
        cases a with
        | c _ => exact p1.elim
        | d a => cases a with
          | non => exact ⟨ra, p1 (.ref y) w2 H2 (ex.trans e2) (rl1.of (ex.trans e2) rs2) last⟩
          | _ => exact p1.elim
      | ex z st2 =>
        rw [hf] at p1
        intro cls d w2 H2 e2 rs2 rx
        rw [List.length_append] at e2
        exact p1 cls d w2 H2 (ex.trans e2) (rl1.of (ex.trans e2) rs2) rx
      | no => rw [hf] at p1; exact p1.elim⟩
theorem e_make (h : HasM X.prog X.w X.K X.mg X.base (L2.CX X.prog X.w) k x "__init__" ps (spM c f)) (M : MkC X.K X.mg x) (hr : Room (k + 1) X.A) (tk : Takes X W) (ha : PA X (e :: es) (tMA c W fs)) (F : Fits X c := by exact ⟨rfl, rfl⟩) (hgl : Gl X x := by rfl) (nd : (x == ("__debug__" : Str)) = false := by decide)
    (star : starEach (e :: es) X.env = (false, eval e X.env) :: starEach es X.env := by rfl) (back : (backTo pos (starEach es X.env)).any (·.1) = false := by rfl) : PE X (.Call (.Name x p) (e :: es) [] pos) (tM c W (mMake x f fs)) := by
  obtain ⟨C, g, fd, hx, cl, mt, bd, ok⟩ := h
  obtain ⟨C', hx', mk, kp⟩ := M
  rw [hx] at hx'
  cases hx'
  exact pe_imp (pe_makeT ⟨mk, mt.at_, mt.fn, kp⟩ ok hr hgl hx bd (fun σ => passAtM tk σ) ha nd star back) (entail_make (F.mg ▸ hx))
end
end Am
/-! ### Am: exceptions of own classes -/
namespace Am
open PySem PySem.Spec PyProof.Rows L2
/-- an own class of exceptions without an __init__ of its own -/
def ExcT (K : PySem.W.Frag) (mg : Str → Option Value) (x : Str) : Prop :=
  ∃ (C : Addr) (bmB : List Value) (B newId initId : String), ExcBaseFacts B newId initId bmB ∧ PySem.W.excIn K C bmB newId = true ∧ mg x = some (.ref C) ∧ PySem.W.keepIn K (.ref C) = true ∧
    PySem.W.subIn K (.ref C) (.type "BaseException") = some true ∧ PySem.W.typeIn K (.ref C) = some (.type "type")
/-- which clauses catch which classes -/
def ExmT (c : Ctx) (isE : Str → Str → Option Bool) : Prop := ∀ (x y : Str) (b : Bool) (C D : Addr), isE x y = some b → c.mg x = some (.ref C) → c.mg y = some (.ref D) → PySem.W.exmOne c.K (.ref C) (.ref D) = some b
def mRaise (x : Str) : MS := fun σ st => .ex ⟨x, none⟩ σ st
def noExO : Out → Out
  | .ex _ _ _ => .no
  | o => o
def mTry (isE : Str → Str → Option Bool) (y : Str) (b s : MS) : MS := fun σ st => match b σ st with
  | .ex x σ1 st1 => match isE x.cls y with
    | some true => noExO (s σ1 st1)
    | some false => .ex x σ1 st1
    | none => .no
  | o => o
section
variable {X : Cx} {c : Ctx} {W : WX}
theorem PostO.noEx {w : Wd} {n : Nat} {D : Ends} : ∀ {o : Out}, PostO c w n W D (noExO o) → PostO c w n (fun _ _ _ _ => False) D o
  | .nx _ _, h => h
  | .bk _ _, h => h
  | .ct _ _, h => h
  | .rt _ _, h => h
  | .ex _ _ _, h => h.elim
  | .no, h => h
theorem s_raise {x m : Str} {j : Nat} {p p2 pos pos' : Pos} (T : ExcT X.K X.mg x) (hc : X.calm = true) (tk : Takes X W) (F : Fits X c := by exact ⟨rfl, rfl⟩) (hg : Gl X x := by rfl) (nd : (x == ("__debug__" : Str)) = false := by decide) :
    PS X (.Raise (some (.Call (.Name x p) [.Constant (.str m) j p2] [] pos)) none pos') (tMS c W (mRaise x)) := by
  obtain ⟨C, bmB, B, n1, n2, f1, f2, g, kp, s1, s2⟩ := T
  exact ps_imp (ps_raise hc tk (pmk_own f1 f2 g kp (raises_own s1 s2) hg nd)) fun D σ H ⟨w, σa, st, rl, q⟩ => q σ (.ref C) none w H (Ext.refl _ _) rl ⟨C, rfl, F.mg ▸ g, rfl⟩
theorem s_try {isE : Str → Str → Option Bool} {y : Str} {Dy : Addr} {body suite : List Stmt} {b₀ : Stmt} {np pos pos' : Pos} {b s : MS} (T : ExmT c isE) (hY : X.mg y = some (.ref Dy)) (tk : Takes X W)
    (hb : ∀ (W : WX) (pn : List (Addr × Obj)) (xe : Value → Shared → Prop), Takes (X.tr pn xe) W → PassesOwn (model X.prog X.w) X.A X.env xe → PSs (X.tr pn xe) body (tMS c W b))
    (hsu : ∀ (a : Addr) (oe : Obj) (pn : List (Addr × Obj)), PSs (X.suite a ((a, oe) :: pn)) (b₀ :: suite) (tMS c (fun _ _ _ _ => False) s)) (F : Fits X c := by exact ⟨rfl, rfl⟩)
    (hs : X.stack = X.env :: X.outer := by rfl) (hf : X.env.frame = some X.env.locals := by rfl) (hg : Gl X y := by rfl) (nd : (y == ("__debug__" : Str)) = false := by decide) :
    PS X (.Try body [.ExceptHandler (some (.Name y np)) none (b₀ :: suite) pos'] [] [] pos) (tMS c W (mTry isE y b s)) :=
  ps_imp (ps_try_only (Wout := W) hs hf ⟨hg, nd, .inl hY⟩ tk hb (fun a oe _ _ pn _ _ => hsu a oe pn)) fun D σ H ⟨w, σa, st, rl, q⟩ => by
    refine ⟨w, σa, st, rl, ?_⟩
    unfold mTry at q
    cases ho : b σa st with
    | ex x σ1 st1 =>
      rw [ho] at q
      have q : PostO c w st.length W D (match isE x.cls y with | some true => noExO (s σ1 st1) | some false => .ex x σ1 st1 | none => .no) := q
      intro σ2 cls d w2 H2 e r rx
      obtain ⟨C, rfl, mC, rd⟩ := rx
      cases hi : isE x.cls y with
      | none => rw [hi] at q; exact q.elim
      | some bb =>
        rw [hi] at q
        have t := T x.cls y bb C Dy hi mC (F.mg ▸ hY)
        refine ⟨bb, by rw [F.K]; exact t, fun hb a _ => ?_, fun hb => ?_⟩
        · subst hb
          exact ⟨w2, σ1, st1, r, PostO.noEx (PostO.mono e q)⟩
        · subst hb
          exact q σ2 (.ref C) d w2 H2 e r ⟨C, rfl, mC, rd⟩
    | nx _ _ => rw [ho] at q; exact q
    | rt _ _ => rw [ho] at q; exact q
    | bk _ _ => rw [ho] at q; exact q
    | ct _ _ => rw [ho] at q; exact q
    | no => rw [ho] at q; exact q
theorem s_tryC {isE : Str → Str → Option Bool} {y : Str} {body suite : List Stmt} {b₀ : Stmt} {np pos pos' : Pos} {b s : MS} (T : ExmT c isE) (hx : ExcT X.K X.mg y) (tk : Takes X W)
    (hb : ∀ (W : WX) (pn : List (Addr × Obj)) (xe : Value → Shared → Prop), Takes (X.tr pn xe) W → PassesOwn (model X.prog X.w) X.A X.env xe → PSs (X.tr pn xe) body (tMS c W b))
    (hsu : ∀ (a : Addr) (oe : Obj) (pn : List (Addr × Obj)), PSs (X.suite a ((a, oe) :: pn)) (b₀ :: suite) (tMS c (fun _ _ _ _ => False) s)) (F : Fits X c := by exact ⟨rfl, rfl⟩)
    (hs : X.stack = X.env :: X.outer := by rfl) (hf : X.env.frame = some X.env.locals := by rfl) (hg : Gl X y := by rfl) (nd : (y == ("__debug__" : Str)) = false := by decide) :
    PS X (.Try body [.ExceptHandler (some (.Name y np)) none (b₀ :: suite) pos'] [] [] pos) (tMS c W (mTry isE y b s)) := by
  obtain ⟨C, _, _, _, _, _, _, g, _⟩ := hx
  exact s_try T g tk hb hsu F hs hf hg nd
end
end Am
namespace Am
open PySem PySem.Spec PyProof.Rows L2
theorem exm_any {K : PySem.W.Frag} {S D : Addr} {b : Bool} (h1 : PySem.W.subIn K (.ref D) (.type "BaseException") = some true) (h2 : PySem.W.isClsIn K D = true) (h3 : PySem.W.typeIn K (.ref D) = some (.type "type")) (h4 : PySem.W.subIn K (.ref S) (.ref D) = some b) :
    PySem.W.exmOne K (.ref S) (.ref D) = some b := by
  have e1 : (PySem.W.subIn K (.ref D) (.type "BaseException") == some true) = true := by rw [h1] <;> rfl
  have h2' : (PySem.W.clsIn K D).isSome = true := h2
  have e2 : ((PySem.W.clsIn K D).isSome && PySem.W.typeIn K (.ref D) == some (.type "type")) = true := by rw [h2', h3] <;> rfl
  show (if (PySem.W.subIn K (.ref D) (.type "BaseException") == some true) = true then (if ((PySem.W.clsIn K D).isSome && PySem.W.typeIn K (.ref D) == some (.type "type")) = true then PySem.W.subIn K (.ref S) (.ref D) else none) else none) = some b
  rw [if_pos e1, if_pos e2, h4]
section
variable {K : PySem.W.Frag} {mg : Str → Option Value}
theorem fldT_mk (tab : List (Str × Str)) (h : ∀ p ∈ tab, ∀ C, mg p.1 = some (.ref C) → Cls K C ∧ NoAttr K C p.2) : FldT ⟨K, mg⟩ (fun x f => tab.contains (x, f)) := fun x f C hf hm =>
  h (x, f) (List.contains_iff_mem.mp hf) C hm
theorem fld_nil : ∀ p ∈ ([] : List (Str × Str)), ∀ C, mg p.1 = some (.ref C) → Cls K C ∧ NoAttr K C p.2 := fun _ h => by cases h
theorem fld_cons {x f : Str} {C : Addr} {tab : List (Str × Str)} (hm : mg x = some (.ref C)) (cl : Cls K C) (n : NoAttr K C f) (h : ∀ p ∈ tab, ∀ C, mg p.1 = some (.ref C) → Cls K C ∧ NoAttr K C p.2) :
    ∀ p ∈ (x, f) :: tab, ∀ C, mg p.1 = some (.ref C) → Cls K C ∧ NoAttr K C p.2 := fun p hp D hD => by
  rcases List.mem_cons.mp hp with rfl | hp
  · rw [hm] at hD
    cases hD
    exact ⟨cl, n⟩
  · exact h p hp D hD
theorem exm_mk (tab : List ((Str × Str) × Bool)) (h : ∀ p ∈ tab, ∀ C D, mg p.1.1 = some (.ref C) → mg p.1.2 = some (.ref D) → PySem.W.exmOne K (.ref C) (.ref D) = some p.2) : ExmT ⟨K, mg⟩ (fun x y => tab.lookup (x, y)) := fun x y b C D hb hC hD => by
  have hm : ((x, y), b) ∈ tab := by
    clear h
    induction tab with
    | nil => cases hb
    | cons p tab ih =>
      obtain ⟨k, v⟩ := p
      simp only [List.lookup] at hb
      cases hk : (x, y) == k with
      | true =>
        rw [hk] at hb
        cases hb
        rw [eq_of_beq hk]
        exact List.mem_cons_self
      | false => rw [hk] at hb; exact List.mem_cons_of_mem _ (ih hb)
  exact h _ hm C D hC hD
theorem exm_nil : ∀ p ∈ ([] : List ((Str × Str) × Bool)), ∀ C D, mg p.1.1 = some (.ref C) → mg p.1.2 = some (.ref D) → PySem.W.exmOne K (.ref C) (.ref D) = some p.2 := fun _ h => by cases h
theorem exm_cons {x y : Str} {b : Bool} {S T : Addr} {tab : List ((Str × Str) × Bool)} (hx : mg x = some (.ref S)) (hy : mg y = some (.ref T)) (e : PySem.W.exmOne K (.ref S) (.ref T) = some b) (h : ∀ p ∈ tab, ∀ C D, mg p.1.1 = some (.ref C) → mg p.1.2 = some (.ref D) → PySem.W.exmOne K (.ref C) (.ref D) = some p.2) :
    ∀ p ∈ ((x, y), b) :: tab, ∀ C D, mg p.1.1 = some (.ref C) → mg p.1.2 = some (.ref D) → PySem.W.exmOne K (.ref C) (.ref D) = some p.2 := fun p hp C D hC hD => by
  rcases List.mem_cons.mp hp with rfl | hp
  · rw [hx] at hC
    rw [hy] at hD
    cases hC
    cases hD
    exact e
  · exact h p hp C D hC hD
end
end Am
/-! ### Am: reversed, zip -/
namespace Am
open PySem PySem.Spec PyProof.Rows L2
def iReversedM (fs : MA) : MI := fun σ st => (fs σ st).bind fun as st1 => match as with
  | [x] => match viewS st1 x with
    | some xs => .ok ⟨xs.reverse, fun s => viewS s x = some xs⟩ st1
    | none => .no
  | _ => .no
def zipD : List D → List D → List A
  | x :: xs, y :: ys => .d (.tup [x, y]) :: zipD xs ys
  | _, _ => []
theorem zipD_len : ∀ xs ys : List D, (zipD xs ys).length = min xs.length ys.length
  | [], _ => by rw [zipD]; simp; intros; simp_all
  | _ :: _, [] => by simp [zipD]
  | _ :: xs, _ :: ys => by rw [zipD, List.length_cons, zipD_len xs ys, List.length_cons, List.length_cons]; omega
theorem zipD_get : ∀ {xs ys : List D} {i : Nat} {a : A}, (zipD xs ys)[i]? = some a → ∃ x y, xs[i]? = some x ∧ ys[i]? = some y ∧ a = .d (.tup [x, y])
  | [], _, i, a, h => by simp [zipD] at h
  | _ :: _, [], i, a, h => by simp [zipD] at h
  | x :: xs, y :: ys, 0, a, h => by simp [zipD] at h; exact ⟨x, y, rfl, rfl, h.symm⟩
  | x :: xs, y :: ys, i + 1, a, h => by
    rw [zipD, List.getElem?_cons_succ] at h
    have z := zipD_get h
    exact z
def iZipM (fs : MA) : MI := fun σ st => (fs σ st).bind fun as st1 => match as with
  | [x, y] => match (viewS st1 x).bind allD, (viewS st1 y).bind allD with
    | some xs, some ys => .ok ⟨zipD xs ys, fun s => viewS s x = some (xs.map .d) ∧ viewS s y = some (ys.map .d)⟩ st1
    | _, _ => .no
  | _ => .no
section
variable {X : Cx} {c : Ctx} {W : WX} {tg e e2 : Expr} {fs : MA} {p pos tpos : Pos} {elts : List Expr} {kk : Nat}
theorem i_reversed (hm : c.mg "reversed" = none) (ha : PA X [e] (tMA c W fs)) (hgl : Gl X "reversed" := by rfl) (F : Fits X c := by exact ⟨rfl, rfl⟩) (hs : starEach [e] X.env = [(false, eval e X.env)] := by rfl) : PI X tg (.Call (.Name "reversed" p) [e] [] pos) (tMI c W (iReversedM fs)) :=
  pi_imp (pi_reversed hgl (F.mg ▸ hm) ha hs) fun σ H R ⟨w, σa, st, rl, q⟩ => ⟨w, σa, st, rl, q.bind fun vs as st1 w1 H1 _ rl1 rs p1 => by
    split at p1
    · rename_i x
      cases rs with
      | cons rx rn =>
        cases rn
        split at p1
        · rename_i xs hv
          obtain ⟨a, us, rfl, q, pr⟩ := viewS_ok rl1.rs rx hv
          rw [F.K]
          refine ⟨a, us, rfl, q, p1.here rl1 fun w2 st2 H2 e2 rs2 ok => ?_⟩
          obtain ⟨a', us', e', q', pr'⟩ := viewS_ok rs2 (rx.ext e2) ok
          cases e'
          have hn : us.length = xs.length := pr.length
          have hn' : us'.length = xs.length := pr'.length
          refine ⟨by show us.length ≤ xs.reverse.length; rw [List.length_reverse, hn]; exact Nat.le_refl _, fun i y hy => ?_⟩
          have hi : i < xs.length := by
            have := (List.getElem?_eq_some_iff.mp hy).1
            rwa [List.length_reverse] at this
          have hy : xs[us.length - 1 - i]? = some y := by
            rw [List.getElem?_reverse hi] at hy
            rw [hn]; exact hy
          obtain ⟨u, hu, ru⟩ := paired_get pr' hy
          refine ⟨⟨by rw [hn]; exact hi, us', u, q', hu⟩, fun v H3 ⟨e3, yv⟩ σa2 σ2 rl2 => ⟨w2, Ext.refl _ _, by rw [e3]; exact rl2, ?_⟩⟩
          have := yv us' q'
          rw [hu] at this
          cases this
          exact ru
        · exact p1.elim
    · exact p1.elim⟩
theorem i_zip (hm : c.mg "zip" = none) (ha : PA X [e, e2] (tMA c W fs)) (hgl : Gl X "zip" := by rfl) (F : Fits X c := by exact ⟨rfl, rfl⟩) (hs : starEach [e, e2] X.env = (false, eval e X.env) :: starEach [e2] X.env := by rfl) (hpl : (backTo pos (starEach [e2] X.env)).any (·.1) = false := by rfl) :
    PI X (.Tuple elts kk tpos) (.Call (.Name "zip" p) [e, e2] [] pos) (tMI c W (iZipM fs)) :=
  pi_imp (pi_zip hgl (F.mg ▸ hm) ha hs hpl) fun σ H R ⟨w, σa, st, rl, q⟩ => ⟨w, σa, st, rl, q.bind fun vs as st1 w1 H1 _ rl1 rs p1 => by
    split at p1
    · rename_i x y
      obtain ⟨vx, vy, rfl, rx, ry⟩ := pr2 rs
      split at p1
      · rename_i xs ys hx hy
        obtain ⟨xa, hvx, hdx⟩ := Option.bind_eq_some_iff.mp hx
        obtain ⟨ya, hvy, hdy⟩ := Option.bind_eq_some_iff.mp hy
        rw [allD_eq hdx] at hvx
        rw [allD_eq hdy] at hvy
        obtain ⟨a, us, rfl, q1, pr1⟩ := viewS_ok rl1.rs rx hvx
        obtain ⟨b, ts, rfl, q2, pr2⟩ := viewS_ok rl1.rs ry hvy
        rw [F.K]
        refine ⟨a, b, us, ts, rfl, q1, q2, p1.here rl1 fun w2 st2 H2 e2 rs2 ok => ?_⟩
        obtain ⟨a', us', e', q1', pr1'⟩ := viewS_ok rs2 (rx.ext e2) ok.1
        cases e'
        obtain ⟨b', ts', e', q2', pr2'⟩ := viewS_ok rs2 (ry.ext e2) ok.2
        cases e'
        have l1 := pr1'.length
        have l2 := pr2'.length
        rw [List.length_map] at l1 l2
        refine ⟨⟨us', ts', q1', q2', ?_⟩, fun i z hz => ?_⟩
        · rw [show (⟨zipD xs ys, fun s => viewS s x = some (xs.map .d) ∧ viewS s y = some (ys.map .d)⟩ : Walk).items.length = min xs.length ys.length from zipD_len xs ys]
          omega
        · obtain ⟨dx, dy, gx, gy, rfl⟩ := zipD_get hz
          obtain ⟨u, hu, ru⟩ := paired_get pr1' (b := A.d dx) (by rw [List.getElem?_map, gx]; rfl)
          obtain ⟨t, ht, rt⟩ := paired_get pr2' (b := A.d dy) (by rw [List.getElem?_map, gy]; rfl)
          refine ⟨⟨us', ts', u, t, q1', q2', hu, ht⟩, fun v H3 ⟨T, x', y', ev, hT, e3, y1, y2⟩ σa2 σ2 rl2 => ?_⟩
          have z1 := y1 us' q1'
          have z2 := y2 ts' q2'
          rw [hu] at z1
          rw [ht] at z2
          cases z1
          cases z2
          subst ev e3
          have g := rl2.rs.same.free hT
          have ru' : DR c (upd w2.G T (.tup [u, t])) dx u := DR.same (same_upd g) ru
          have rt' : DR c (upd w2.G T (.tup [u, t])) dy t := DR.same (same_upd g) rt
          exact ⟨w2.put T (.tup [u, t]), w2.put_ext g, rl2.put hT, T, [u, t], rfl, upd_same, ⟨u, [t], rfl, ru', t, [], rfl, rt', rfl⟩⟩
      · exact p1.elim
    · exact p1.elim⟩
end
end Am
/-! ### Am: isinstance by a built-in type -/
namespace Am
open PySem PySem.Spec PyProof.Rows L2
def tyD : D → Option String
  | .non => some "NoneType"
  | .bl _ => some "bool"
  | .int _ => some "int"
  | .str _ => some "str"
  | .list _ => some "list"
  | .tup _ => some "tuple"
  | _ => none
def tyA (st : Store) : A → Option String
  | .d x => tyD x
  | .c i => match st[i]? with
    | some (.lst _) => some "list"
    | some (.dK _) => some "dict"
    | some (.dT _) => some "dict"
    | some (.fz x) => tyD x
    | _ => none
def gIsi (t : String) : A → Store → Res A := fun a st => match (tyA st a).bind fun n => kitB n t with
  | some b => .ok (.d (.bl b)) st
  | none => .no
section
variable {c : Ctx} {w : Wd} {st : Store} {H : Hp}
theorem tyD_ok {G : Hp} (sm : Same G H) {x : D} {v : V} {t : String} (r : DR c G x v) (h : tyD x = some t) : TyX c.K H v (.type t) := by
  cases x with
  | non => cases h; cases r; exact .base .non
  | bl b => cases h; cases r; exact .base (.bl _)
  | int i => cases h; cases r; exact .base (.int _)
  | str s => cases h; cases r; exact .base (.str _)
  | list ds => cases h; obtain ⟨a, vs, rfl, e, _⟩ := r; exact .base (.lst (sm _ _ e))
  | tup ds => cases h; obtain ⟨a, vs, rfl, e, _⟩ := r; exact .base (.tup (sm _ _ e))
  | _ => cases h
theorem tyA_ok (rl : RelS c w st H) : ∀ {a : A} {v : V} {t : String}, RA c w st.length v a → tyA st a = some t → TyX c.K H v (.type t)
  | .d x, v, t, r, h => tyD_ok rl.same r h
  | .c i, v, t, ⟨h1, h2⟩, h => by
    have h : (match st[i]? with | some (.lst _) => some "list" | some (.dK _) => some "dict" | some (.dT _) => some "dict" | some (.fz x) => tyD x | _ => none) = some t := h
    split at h
    · rename_i q
      cases h
      obtain ⟨_, us, e, _⟩ := rl.cell _ _ q
      rw [h2]
      exact .base (.lst e)
    · rename_i q
      cases h
      obtain ⟨_, us, e, _⟩ := rl.cell _ _ q
      rw [h2]
      exact .base (.dK e)
    · rename_i q
      cases h
      obtain ⟨_, us, e, _⟩ := rl.cell _ _ q
      rw [h2]
      exact .base (.dT e)
    · rename_i q
      obtain ⟨r, _⟩ := rl.cell _ _ q
      rw [h2]
      exact tyD_ok rl.same r h
    · cases h
end
theorem e_isi {X : Cx} {c : Ctx} {W : WX} {e : Expr} {fo : ME} {n : Str} {t : String} {p p2 pos : Pos} (h : PE X e (tM c W fo)) (hm : c.mg "isinstance" = none) (hn : c.mg n = none) (hv : bootBuiltins n = some (.type t)) (F : Fits X c := by exact ⟨rfl, rfl⟩)
    (hgl : Gl X "isinstance" := by rfl) (hgn : Gl X n := by rfl) (nm : n ≠ "__name__" := by decide) (nd : (n == ("__debug__" : Str)) = false := by decide)
    (he : starEach [e, .Name n p2] X.env = (false, eval e X.env) :: starEach [.Name n p2] X.env := by rfl) (hpl : (backTo pos (starEach [.Name n p2] X.env)).any (·.1) = false := by rfl) :
    PE X (.Call (.Name "isinstance" p) [e, .Name n p2] [] pos) (tM c W (mUn (gIsi t) fo)) :=
  pe_imp (pe_callB call_isi hgl (F.mg ▸ hm) boot_isinstance (pa_cons h (pa_cons (pe_bltn (v := .ty t) hgn (F.mg ▸ hn) hv rfl (hn := nm) (hd := nd)) pa_nil) (hs := he)) (by decide) (by decide) he hpl) fun σ H Q ⟨w, σa, st, rl, q⟩ =>
    ⟨w, σa, st, rl, q.bind fun v a st1 w1 H1 _ rl1 ra p1 => by
      unfold gIsi at p1
      split at p1
      · rename_i b hb
        obtain ⟨m, h1, h2⟩ := Option.bind_eq_some_iff.mp hb
        have z := tyA_ok rl1.rs ra h1
        rw [← F.K] at z
        exact ⟨v, .ty t, .type m, .type t, b, rfl, .ty t, z, kit_ty h2, p1.here rl1 rfl⟩
      · exact p1.elim⟩
end Am
/-! ### Am: displays of dicts whose keys are written -/
namespace Am
open PySem PySem.Spec PyProof.Rows L2
def mAll : List ME → MA
  | [] => mNil
  | f :: fs => mCons f (mAll fs)
def mergeA (kvs : List (Key × A)) : List (Key × A) := kvs.foldl (fun acc kv => putA acc kv.1 kv.2) []
/-- {k: f, ..}, a new cell -/
def mDisp (l : List (Key × ME)) : ME := fun σ st => (mAll (l.map (·.2)) σ (st ++ [.dK []])).bind fun as st1 => match st1[st.length]? with
  | some (.dK []) => .ok (.c st.length) (st1.set st.length (.dK (mergeA ((l.map (·.1)).zip as))))
  | _ => .no
def trsOf (c : Ctx) (W : WX) (l : List (Key × ME)) : List (TE × TE) := l.map fun p => (tC (kV p.1), tM c W p.2)
section
variable {X : Cx} {c : Ctx} {W : WX} {w : Wd} {σa : Slots} {σ : L2.St}
theorem pairs_mono {Q Q' : List (V × V) → Hp → Prop} (h : ∀ ps H, Q ps H → Q' ps H) : ∀ (l : List (Key × ME)) {H : Hp}, tPairs (trsOf c W l) σ H Q → tPairs (trsOf c W l) σ H Q'
  | [], H, q => h [] H q
  | p :: l, H, q => by
    obtain ⟨w, σa, st, rl, q⟩ := (show tM c W p.2 σ H fun y H2 => tPairs (trsOf c W l) σ H2 fun ps H3 => Q ((kV p.1, y) :: ps) H3 from q)
    show tM c W p.2 σ H fun y H2 => tPairs (trsOf c W l) σ H2 fun ps H3 => Q' ((kV p.1, y) :: ps) H3
    refine ⟨w, σa, st, rl, ?_⟩
    cases hr : p.2 σa st with
    | ok a st1 => rw [hr] at q; exact fun v w' H' e r ra => pairs_mono (fun ps H3 z => h _ _ z) l (q v w' H' e r ra)
    | ex x st1 => rw [hr] at q; exact q
    | no => rw [hr] at q; exact q
theorem pairs_ok : ∀ (l : List (Key × ME)) {w : Wd} {st : Store} {H : Hp} {Q : List V → Hp → Prop}, Rel c w σa st σ H → Post c w st.length σa σ (fun w n vs as => Paired (RA c w n) vs as) W Q (mAll (l.map (·.2)) σa st) →
    tPairs (trsOf c W l) σ H fun ps H' => ∃ vs, vs.length = l.length ∧ ps = ((l.map (·.1)).zip vs).map (fun kv => (kV kv.1, kv.2)) ∧ Q vs H'
  | [], w, st, H, Q, rl, q => ⟨[], rfl, rfl, q.here rl .nil⟩
  | p :: l, w, st, H, Q, rl, q => by
    show tM c W p.2 σ H fun y H2 => tPairs (trsOf c W l) σ H2 fun ps H3 => ∃ vs, vs.length = (p :: l).length ∧ (kV p.1, y) :: ps = (((p :: l).map (·.1)).zip vs).map (fun kv => (kV kv.1, kv.2)) ∧ Q vs H3
    refine ⟨w, σa, st, rl, Post.bind (show Post c w st.length σa σ (fun w n vs as => Paired (RA c w n) vs as) W Q ((p.2 σa st).bind fun x st1 => (mAll (l.map (·.2)) σa st1).bind fun xs st2 => .ok (x :: xs) st2) from q) fun v a st1 w1 H1 e1 rl1 ra p1 => ?_⟩
    have ih := pairs_ok l (Q := fun vs H3 => Q (v :: vs) H3) rl1 (Post.bind p1 fun vs as st2 w2 H2 e2 rl2 rs p2 => Post.here p2 rl2 (.cons (ra.ext e2) rs))
    refine pairs_mono (fun ps H3 ⟨vs, hl, e, q⟩ => ⟨v :: vs, by rw [List.length_cons, List.length_cons, hl], ?_, q⟩) l ih
    rw [e]
    rfl
theorem mergeA_ok {R : V → A → Prop} : ∀ {us : List (Key × V)} {xs : List (Key × A)} {as : List (Key × V)} {bs : List (Key × A)}, Paired (KD R) us xs → Paired (KD R) as bs → Paired (KD R) (mergeK as us) (xs.foldl (fun acc kv => putA acc kv.1 kv.2) bs)
  | _, _, _, _, .nil, h => h
  | (k, _) :: _, (k2, _) :: _, _, _, .cons ⟨e, r⟩ t, h => by
    have e : k = k2 := e
    subst e
    have z := mergeA_ok t (putA_ok (k := k) r h)
    exact z
theorem zip_pair {R : V → A → Prop} : ∀ (ks : List Key) {vs : List V} {as : List A}, Paired R vs as → Paired (KD R) (ks.zip vs) (ks.zip as)
  | [], _, _, _ => by rw [List.zip_nil_left, List.zip_nil_left]; exact .nil
  | _ :: _, _, _, .nil => by rw [List.zip_nil_right, List.zip_nil_right]; exact .nil
  | _ :: ks, _, _, .cons r t => .cons ⟨rfl, r⟩ (zip_pair ks t)
theorem e_disp {l : List (Key × ME)} {keys : List (Option Expr)} {values : List Expr} {pos : Pos} (h : PPs X pos keys values (trsOf c W l)) (hk : keys.length = l.length) (hall : keys.all (·.isSome) = true := by rfl) (hl : keys.length = values.length := by rfl) (h0 : keys ≠ [] := by intro z; cases z) (h15 : keys.length ≤ 15 := by decide) :
    PE X (.Dict keys values pos) (tM c W (mDisp l)) := pe_imp (pe_disp h hall hl h0 h15) fun σ H Q ⟨w, σa, st, rl, q⟩ p hp => by
  have g := rl.rs.same.free hp
  have rl1 : Rel c (w.cell st.length p) σa (st ++ [.dK []]) σ (upd H p (.dK [])) := rl.push hp ⟨g, [], upd_same, .nil⟩
  have e0 : Ext w st.length (w.cell st.length p) (st ++ [Cell.dK []]).length := by rw [List.length_append]; exact w.cell_ext _ _
  refine pairs_mono (fun ps H2 ⟨vs, hvl, e, z⟩ => z hvl ps e) l (pairs_ok l (Q := fun vs H2 => vs.length = l.length → ∀ ps, ps = ((l.map (·.1)).zip vs).map (fun kv => (kV kv.1, kv.2)) → H2 p = some (.dK []) ∧ ∃ kvs : List (Key × V), ps = kvs.map (fun kv => (kV kv.1, kv.2)) ∧ kvs.length ≤ 15 ∧ Q (.ref p) (upd H2 p (.dK (mergeK [] kvs)))) rl1 (Post.bind (Post.mono e0 q) fun vs as st1 w1 H1 e1 rl2 rs p1 hvl ps eps => ?_))
  split at p1
  · rename_i hc
    obtain ⟨g1, us, eu, pr⟩ := rl2.rs.cell _ _ hc
    cases pr
    have ep : w1.E st.length = p := by
      rw [e1.cells _ (by rw [List.length_append]; exact Nat.lt_succ_self _), Wd.cell_at]
    have hw := rl2.write hc g1 (y := .dK (mergeA ((l.map (·.1)).zip as))) (o := .dK (mergeK [] ((l.map (·.1)).zip vs))) ⟨g1, _, upd_same, mergeA_ok (zip_pair _ rs) .nil⟩
    rw [ep] at eu hw
    refine ⟨eu, (l.map (·.1)).zip vs, eps, ?_, ?_⟩
    · rw [List.length_zip, List.length_map]
      have : l.length ≤ 15 := by rw [← hk]; exact h15
      omega
    · refine p1 (.ref p) w1 _ ?_ hw ?_
      · rw [List.length_set]; exact Ext.refl _ _
      · exact ⟨by rw [List.length_set]; exact RelS.lt hc, by rw [ep]⟩
  · exact p1.elim
end
end Am
/-! ### Am: reckoning with instances -/
namespace Am
open PySem PySem.Spec PyProof.Rows L2
section
variable (isF : Str → Str → Bool) (f : Str) (σ : Slots) (st : Store)
def fldI (v : Option (Str × List (Str × A))) (st : Store) : Res A := match v with
  | some (x, fs) => if isF x f then match fs.lookup f with
      | some v => .ok v st
      | none => .no
    else .no
  | none => .no
theorem gFld_ap (a : A) : gFld isF f a st = fldI isF f (viewI st a) st := by
  unfold gFld fldI
  cases viewI st a <;> rfl
def lookR (v : Option A) (st : Store) : Res A := match v with
  | some v => .ok v st
  | none => .no
theorem lookR_some (v : A) : lookR (some v) st = .ok v st := rfl
theorem fldI_some (x : Str) (fs : List (Str × A)) (h : isF x f = true) : fldI isF f (some (x, fs)) st = lookR (fs.lookup f) st := by
  unfold fldI lookR
  simp only [h, if_true] <;> (cases fs.lookup f <;> rfl)
theorem viewI_c (i : Nat) : viewI st (.c i) = match st[i]? with
    | some (.ins x fs) => some (x, fs)
    | some (.fz (.ins x fs)) => some (x, fs.map fun p => (p.1, A.d p.2))
    | _ => none := rfl
theorem mFld_ap (fo : ME) : mFld isF f fo σ st = (fo σ st).bind (gFld isF f) := rfl
noncomputable def fs2 (r : Res A) (y : A) (σ : Slots) : Out := lift r σ fun o st2 => match gFS isF f o y st2 with
  | some st3 => .nx σ st3
  | none => .no
noncomputable def fsR (r : Res A) (fo : ME) (σ : Slots) : Out := lift r σ fun y st1 => fs2 isF f (fo σ st1) y σ
theorem mFS_ap (fo fv : ME) : mFS isF f fo fv σ st = fsR isF f (fv σ st) fo σ := rfl
theorem fsR_ok (y : A) (fo : ME) : fsR isF f (.ok y st) fo σ = fs2 isF f (fo σ st) y σ := rfl
noncomputable def fsC (x : Option Cell) (i : Nat) (y : A) (σ : Slots) (st : Store) : Out := match x with
  | some (.ins x fs) => if isF x f = true ∧ fs.length < 1000 then .nx σ (st.set i (.ins x (putM f y fs))) else .no
  | _ => .no
theorem fs2_ok (i : Nat) (y : A) : fs2 isF f (.ok (.c i) st) y σ = fsC isF f st[i]? i y σ st := by
  show (match gFS isF f (.c i) y st with | some st3 => Out.nx σ st3 | none => .no) = _
  unfold gFS fsC
  simp only []
  cases st[i]? with
  | none => rfl
  | some x => cases x with
    | ins x fs =>
      by_cases h : isF x f = true ∧ fs.length < 1000
      · simp only [ifc_pos h, if_pos h]
      · simp only [ifc_neg h, if_neg h]
    | _ => rfl
theorem fsC_ins (x : Str) (fs : List (Str × A)) (i : Nat) (y : A) (h : isF x f = true ∧ fs.length < 1000) : fsC isF f (some (.ins x fs)) i y σ st = .nx σ (st.set i (.ins x (putM f y fs))) := if_pos h
end
section
variable (x m : Str) (f : MF) (σ : Slots) (st : Store)
def methI (v : Option (Str × List (Str × A))) (a : A) (fs : MA) (σ : Slots) (st : Store) : Res A := match v with
  | some (y, flds) => if y = x ∧ flds.lookup m = none then (fs σ st).bind fun as st2 => f (a :: as) st2 else .no
  | none => .no
def methO (r : Res A) (fs : MA) (σ : Slots) : Res A := r.bind fun a st1 => methI x m f (viewI st1 a) a fs σ st1
theorem mMeth_ap (fo : ME) (fs : MA) : mMeth x m f fo fs σ st = methO x m f (fo σ st) fs σ := by
  unfold mMeth methO
  congr 1
theorem methO_ok (a : A) (fs : MA) : methO x m f (.ok a st) fs σ = methI x m f (viewI st a) a fs σ st := rfl
def callA (f : MF) (a : A) (r : Res (List A)) : Res A := r.bind fun as st2 => f (a :: as) st2
theorem callA_ok (a : A) (as : List A) : callA f a (.ok as st) = f (a :: as) st := rfl
theorem methI_some (flds : List (Str × A)) (a : A) (fs : MA) (h : flds.lookup m = none) : methI x m f (some (x, flds)) a fs σ st = callA f a (fs σ st) := if_pos ⟨rfl, h⟩
def madeR (i : Nat) (r : Res A) : Res A := r.bind fun r st2 => match r with
  | .d .non => .ok (.c i) st2
  | _ => .no
theorem madeR_ok (i : Nat) : madeR i (.ok (.d .non) st) = .ok (.c i) st := rfl
def makeR (r : Res (List A)) : Res A := r.bind fun as st1 => madeR st1.length (f (.c st1.length :: as) (st1 ++ [.ins x []]))
theorem mMake_ap (fs : MA) : mMake x f fs σ st = makeR x f (fs σ st) := by
  unfold mMake makeR madeR
  congr 1
theorem makeR_ok (as : List A) : makeR x f (.ok as st) = madeR st.length (f (.c st.length :: as) (st ++ [.ins x []])) := rfl
theorem mRaise_ap : mRaise x σ st = .ex ⟨x, none⟩ σ st := rfl
end
section
variable (isF : Str → Str → Bool) (f : Str) (g : A → A → Store → Res A) (σ : Slots) (st : Store)
def clsO : Option Cell → Option Str
  | some (.ins c _) => some c
  | some (.fz (.ins c _)) => some c
  | _ => none
theorem clsA_c (i : Nat) : clsA st (.c i) = clsO st[i]? := by
  unfold clsA
  rw [viewI_c]
  cases st[i]? with
  | none => rfl
  | some x => cases x with
    | fz d => cases d <;> rfl
    | _ => rfl
noncomputable def faC (x x1 : Option Cell) (i : Nat) (z : A) (σ : Slots) (st : Store) : Out := match x with
  | some (.ins c fs) => if isF c f = true ∧ fs.length < 1000 then needO (some c = clsO x1) (.nx σ (st.set i (.ins c (putM f z fs)))) else .no
  | _ => .no
noncomputable def fa5 (o z : A) (st1 : Store) (σ : Slots) (st4 : Store) : Out := match gFS isF f o z st4 with
  | some st5 => needO (clsA st4 o = clsA st1 o) (.nx σ st5)
  | none => .no
noncomputable def fa4 (r : Res A) (o : A) (st1 : Store) (σ : Slots) : Out := lift r σ fun z st4 => fa5 isF f o z st1 σ st4
noncomputable def fa3 (r : Res A) (x o : A) (st1 : Store) (σ : Slots) : Out := lift r σ fun y st3 => fa4 isF f (g x y st3) o st1 σ
noncomputable def fa2 (r : Res A) (fv : ME) (o : A) (st1 : Store) (σ : Slots) : Out := lift r σ fun x st2 => fa3 isF f g (fv σ st2) x o st1 σ
noncomputable def fa1 (r : Res A) (fv : ME) (σ : Slots) : Out := lift r σ fun o st1 => fa2 isF f g (gFld isF f o st1) fv o st1 σ
theorem mFA_ap (fo fv : ME) : mFA isF f g fo fv σ st = fa1 isF f g (fo σ st) fv σ := by
  unfold mFA fa1 fa2 fa3 fa4 fa5
  congr 1
theorem fa1_ok (o : A) (fv : ME) : fa1 isF f g (.ok o st) fv σ = fa2 isF f g (gFld isF f o st) fv o st σ := rfl
theorem fa2_ok (x o : A) (fv : ME) (st1 : Store) : fa2 isF f g (.ok x st) fv o st1 σ = fa3 isF f g (fv σ st) x o st1 σ := rfl
theorem fa3_ok (x y o : A) (st1 : Store) : fa3 isF f g (.ok y st) x o st1 σ = fa4 isF f (g x y st) o st1 σ := rfl
theorem fa4_ok (z o : A) (st1 : Store) : fa4 isF f (.ok z st) o st1 σ = fa5 isF f o z st1 σ st := rfl
theorem fa5_c (i : Nat) (z : A) (st1 : Store) : fa5 isF f (.c i) z st1 σ st = faC isF f st[i]? st1[i]? i z σ st := by
  unfold fa5 faC gFS
  rw [clsA_c, clsA_c]
  simp only []
  cases st[i]? with
  | none => rfl
  | some x => cases x with
    | ins c fs =>
      by_cases h : isF c f = true ∧ fs.length < 1000
      · simp only [ifc_pos h, if_pos h, clsO]
      · simp only [ifc_neg h, if_neg h]
    | _ => rfl
theorem faC_ins (c : Str) (fs : List (Str × A)) (x1 : Option Cell) (i : Nat) (z : A) (h : isF c f = true ∧ fs.length < 1000) (h1 : clsO x1 = some c) : faC isF f (some (.ins c fs)) x1 i z σ st = .nx σ (st.set i (.ins c (putM f z fs))) := by
  show (if isF c f = true ∧ fs.length < 1000 then needO _ _ else _) = _
  rw [if_pos h, needO_pos h1.symm]
end
theorem ixC_l (xs : List A) (j : Int) (st : Store) : ixC (some (.lst xs)) (.d (.int j)) st = match atI xs j with | some x => .ok x st | none => .no := rfl
theorem ixC_fl (ds : List D) (j : Int) (st : Store) : ixC (some (.fz (.list ds))) (.d (.int j)) st = match atI (ds.map A.d) j with | some x => .ok x st | none => .no := rfl
theorem lenC_l (xs : List A) (st : Store) : lenC (some (.lst xs)) st = .ok (.d (.int (xs.length : Nat))) st := rfl
theorem lenC_fl (xs : List D) (st : Store) : lenC (some (.fz (.list xs))) st = .ok (.d (.int (xs.length : Nat))) st := rfl
theorem lenC_k (xs : List (Key × A)) (st : Store) : lenC (some (.dK xs)) st = .ok (.d (.int (xs.length : Nat))) st := rfl
theorem lenC_t (xs : List (List Key × A)) (st : Store) : lenC (some (.dT xs)) st = .ok (.d (.int (xs.length : Nat))) st := rfl
theorem gEq_ni (j : Int) (st : Store) : gEq false (.d .non) (.d (.int j)) st = .ok (.d (.bl false)) st := gEq_diff (n := 0) st (Pl.non 0) (Pl.int 0 j) false (fun z => nomatch z)
theorem gEq_bf (a b : Bool) (st : Store) : gEq false (.d (.bl a)) (.d (.bl b)) st = .ok (.d (.bl (decide (a = b)))) st := by
  unfold gEq
  rw [show peek st (.d (.bl a)) = some (.bl a) from rfl, show peek st (.d (.bl b)) = some (.bl b) from rfl, Option.bind_some, Option.bind_some, D.py, D.py]
  cases a <;> cases b <;> exact need_pos ⟨by decide, by decide⟩
theorem gEq_bt (a b : Bool) (st : Store) : gEq true (.d (.bl a)) (.d (.bl b)) st = .ok (.d (.bl (!decide (a = b)))) st := by
  unfold gEq
  rw [show peek st (.d (.bl a)) = some (.bl a) from rfl, show peek st (.d (.bl b)) = some (.bl b) from rfl, Option.bind_some, Option.bind_some, D.py, D.py]
  cases a <;> cases b <;> exact need_pos ⟨by decide, by decide⟩
theorem gIsi_i (t : String) (i : Int) (st : Store) (b : Bool) (h : kitB "int" t = some b) : gIsi t (.d (.int i)) st = .ok (.d (.bl b)) st := by
  unfold gIsi
  rw [show tyA st (.d (.int i)) = some "int" from rfl, Option.bind_some, h]
theorem gIsi_ii (i : Int) (st : Store) : gIsi "int" (.d (.int i)) st = .ok (.d (.bl true)) st := gIsi_i _ _ _ _ rfl
theorem gIsi_ib (i : Int) (st : Store) : gIsi "bool" (.d (.int i)) st = .ok (.d (.bl false)) st := gIsi_i _ _ _ _ (by decide +kernel)
/-! comprehensions whose elements may be cells, by what holds ahead of each turn -/
theorem lcA_inv {pt : Pt} {f : ME} {n : Nat} {ok : Store → Prop} {σ : Slots} (I : Nat → List A → Store → Prop) (hok : ∀ j acc s, I j acc s → ok s) : ∀ (xs : List A) (i : Nat) (acc : List A) (s : Store), s[n]? = some (.lst acc) → I i acc s → acc.length + xs.length ≤ SZ →
    (∀ j x acc s, xs[j]? = some x → s[n]? = some (.lst acc) → I (i + j) acc s → ∃ σ1 y s2, pt σ x = some σ1 ∧ f σ1 s = .ok y s2 ∧ s2[n]? = some (.lst acc) ∧ I (i + j + 1) (acc ++ [y]) (s2.set n (.lst (acc ++ [y])))) →
    ∃ acc' s', lcA pt mYes f n ok σ xs s = .ok () s' ∧ s'[n]? = some (.lst acc') ∧ I (i + xs.length) acc' s'
  | [], i, acc, s, h, hi, _, _ => ⟨acc, s, by rw [lcA, need_pos (hok _ _ _ hi)], h, hi⟩
  | x :: xs, i, acc, s, h, hi, hl, ht => by
    obtain ⟨σ1, y, s2, e1, e2, e3, e4⟩ := ht 0 x acc s rfl h hi
    rw [List.length_cons] at hl
    have hn : n < s2.length := RelS.lt e3
    obtain ⟨acc', s', f1, f2, f3⟩ := lcA_inv I hok xs (i + 1) (acc ++ [y]) (s2.set n (.lst (acc ++ [y]))) (List.getElem?_set_self hn) e4 (by rw [List.length_append, List.length_singleton]; omega) fun j x acc s hx ha hI => by
      have := ht (j + 1) x acc s hx ha (by rw [show i + (j + 1) = i + 1 + j by omega]; exact hI)
      rw [show i + (j + 1) + 1 = i + 1 + j + 1 by omega] at this
      exact this
    refine ⟨acc', s', ?_, f2, by rw [List.length_cons, show i + (xs.length + 1) = i + 1 + xs.length by omega]; exact f3⟩
    rw [lcA, need_pos (hok _ _ _ hi)]
    simp only [e1, mYes, noEx, Res.bind, if_true, e2, e3]
    rw [ifc_pos (by omega)]
    exact f1
theorem mLc_cells {it : MI} {vs : List Nat} {pt : Pt} {f : ME} {σ : Slots} {st st1 : Store} {xs : List A} {ok : Store → Prop} (I : Nat → List A → Store → Prop) (hit : it σ st = .ok ⟨xs, ok⟩ st1) (hl : xs.length ≤ SZ) (h0 : I 0 [] (st1 ++ [.lst []])) (hok : ∀ j acc s, I j acc s → ok s)
    (ht : ∀ j x acc s, xs[j]? = some x → s[st1.length]? = some (.lst acc) → I j acc s → ∃ σ1 y s2, pt (wipeA σ vs) x = some σ1 ∧ f σ1 s = .ok y s2 ∧ s2[st1.length]? = some (.lst acc) ∧ I (j + 1) (acc ++ [y]) (s2.set st1.length (.lst (acc ++ [y])))) :
    ∃ acc s, mLc true vs pt it mYes f σ st = .ok (.c st1.length) s ∧ s[st1.length]? = some (.lst acc) ∧ I xs.length acc s := by
  obtain ⟨acc, s, e1, e2, e3⟩ := lcA_inv (pt := pt) (f := f) (n := st1.length) (ok := ok) (σ := wipeA σ vs) I hok xs 0 [] (st1 ++ [.lst []]) (by simp) h0 (by simpa using hl) fun j x acc s hx ha hI => by
    rw [Nat.zero_add] at hI
    rw [Nat.zero_add]
    exact ht j x acc s hx ha hI
  rw [Nat.zero_add] at e3
  refine ⟨acc, s, ?_, e2, e3⟩
  unfold mLc
  rw [hit]
  show (lcA pt mYes f st1.length ok (wipeA σ vs) xs (st1 ++ [.lst []])).bind (fun _ st2 => lcEnd true st1 st2) = _
  rw [e1]
  show lcEnd true st1 s = _
  unfold lcEnd
  simp only [e2, if_true]
/-- [h i for i in range(..)], to be changed -/
theorem mLc_rangeC {it : MI} {j : Nat} {f : ME} {σ : Slots} {st st1 : Store} {lo s : Int} {n : Nat} (h : Nat → D) (hit : it σ st = .ok ⟨rangeA lo n s, fun _ => True⟩ st1) (hl : n ≤ SZ)
    (ht : ∀ i < n, ∀ ac : List A, f ((wipeA σ [j]).set j (some (.d (.int (lo + (i : Nat) * s))))) (st1 ++ [.lst ac]) = .ok (.d (h i)) (st1 ++ [.lst ac])) :
    mLc true [j] (pt1 j) it mYes f σ st = .ok (.c st1.length) (st1 ++ [.lst ((List.range n).map fun i => A.d (h i))]) := by
  obtain ⟨acc, s', e1, _, rfl, e3⟩ := mLc_cells (vs := [j]) (pt := pt1 j) (f := f) (fun i acc s' => s' = st1 ++ [.lst acc] ∧ acc = (List.range i).map fun i => A.d (h i)) hit (by rw [rangeA_length]; exact hl) ⟨rfl, rfl⟩ (fun _ _ _ _ => trivial) fun i x acc s' hx _ hI => by
    obtain ⟨rfl, ha⟩ := hI
    obtain ⟨hi, rfl⟩ := rangeA_get hx
    refine ⟨_, _, _, rfl, ht i hi acc, by rw [List.getElem?_append_right (Nat.le_refl _), Nat.sub_self]; rfl, by rw [List.set_append_right _ _ (Nat.le_refl _), Nat.sub_self]; rfl, ?_⟩
    rw [ha, List.range_succ, List.map_append]
    rfl
  rw [e1, e3, rangeA_length]
theorem loc_assoc (st L M : Store) : st ++ L ++ M = st ++ (L ++ M) := List.append_assoc _ _ _
end Am
/-! ### Am: how objects lie in the store, by roles -/
namespace Am
open PySem PySem.Spec PyProof.Rows L2
/-- the roles that are; where they lie; what their cells hold -/
structure Holds {ρ : Type} (is : ρ → Prop) (pl : ρ → Nat) (cell : ρ → Cell) (st : Store) : Prop where
  inj : ∀ r r', is r → is r' → pl r = pl r' → r = r'
  get : ∀ r, is r → st[pl r]? = some (cell r)
def Foot {ρ : Type} (is : ρ → Prop) (pl : ρ → Nat) (i : Nat) : Prop := ∃ r, is r ∧ pl r = i
/-- outside F nothing is changed -/
def Chg (F : Nat → Prop) (st st' : Store) : Prop := st.length ≤ st'.length ∧ ∀ i, i < st.length → ¬ F i → st'[i]? = st[i]?
/-- F' is of F and new places -/
def Sub (F : Nat → Prop) (st : Store) (F' : Nat → Prop) : Prop := ∀ i, F' i → F i ∨ st.length ≤ i
theorem Chg.refl (F : Nat → Prop) (st : Store) : Chg F st st := ⟨Nat.le_refl _, fun _ _ _ => rfl⟩
theorem Sub.refl (F : Nat → Prop) (st : Store) : Sub F st F := fun _ h => .inl h
theorem Chg.trans {F F1 : Nat → Prop} {st st1 st2 : Store} (a : Chg F st st1) (s : Sub F st F1) (b : Chg F1 st1 st2) : Chg F st st2 :=
  ⟨Nat.le_trans a.1 b.1, fun i hi hf => by
    rw [b.2 i (Nat.lt_of_lt_of_le hi a.1) fun h => (s i h).elim hf fun z => Nat.not_lt.mpr z hi]
    exact a.2 i hi hf⟩
theorem Sub.trans {F F1 F2 : Nat → Prop} {st st1 : Store} (s : Sub F st F1) (l : st.length ≤ st1.length) (t : Sub F1 st1 F2) : Sub F st F2 := fun i h => (t i h).elim (s i) fun z => .inr (Nat.le_trans l z)
theorem Chg.mono {F F1 : Nat → Prop} {st st1 : Store} (a : Chg F st st1) (h : ∀ i, F i → F1 i) : Chg F1 st st1 := ⟨a.1, fun i hi hf => a.2 i hi fun z => hf (h i z)⟩
theorem Chg.app (F : Nat → Prop) (st L : Store) : Chg F st (st ++ L) := ⟨by rw [List.length_append]; omega, fun i hi _ => List.getElem?_append_left hi⟩
theorem Chg.set {F : Nat → Prop} {i : Nat} (h : F i) (st : Store) (x : Cell) : Chg F st (st.set i x) := ⟨by rw [List.length_set]; exact Nat.le_refl _, fun j _ hf => List.getElem?_set_ne fun z => hf (by rw [← z]; exact h)⟩
theorem Chg.appset {F : Nat → Prop} {i : Nat} (h : F i) (st L : Store) (x : Cell) : Chg F st ((st ++ L).set i x) := ⟨by rw [List.length_set, List.length_append]; omega, fun j hj hf => by rw [List.getElem?_set_ne fun z => hf (by rw [← z]; exact h), List.getElem?_append_left hj]⟩
section
variable {ρ ρ2 : Type} {is : ρ → Prop} {pl : ρ → Nat} {cell cell' : ρ → Cell} {st st' : Store} {is2 : ρ2 → Prop} {pl2 : ρ2 → Nat} {cell2 : ρ2 → Cell}
theorem Holds.lt (h : Holds is pl cell st) {r : ρ} (hr : is r) : pl r < st.length := RelS.lt (h.get r hr)
theorem Holds.foot_lt (h : Holds is pl cell st) {i : Nat} (hf : Foot is pl i) : i < st.length := let ⟨_, hr, e⟩ := hf; e ▸ h.lt hr
theorem Holds.ne (h : Holds is pl cell st) {r r' : ρ} (hr : is r) (hr' : is r') (n : r ≠ r') : pl r ≠ pl r' := fun e => n (h.inj r r' hr hr' e)
theorem Holds.set (h : Holds is pl cell st) {r0 : ρ} {c : Cell} (h0 : is r0) (hc : cell' r0 = c) (ho : ∀ r, is r → r ≠ r0 → cell' r = cell r) : Holds is pl cell' (st.set (pl r0) c) :=
  ⟨h.inj, fun r hr => by
    by_cases e : r = r0
    · subst e
      rw [List.getElem?_set_self (h.lt hr), hc]
    · rw [List.getElem?_set_ne (h.ne h0 hr (Ne.symm e)), h.get r hr, ho r hr e]⟩
theorem Holds.app (h : Holds is pl cell st) (L : Store) : Holds is pl cell (st ++ L) := ⟨h.inj, fun r hr => base_get (h.get r hr) L⟩
theorem Holds.cut (h : Holds is pl cell st) {st' : Store} (e : ∀ i, i < st.length → st'[i]? = st[i]?) : Holds is pl cell st' := ⟨h.inj, fun r hr => (e _ (h.lt hr)).trans (h.get r hr)⟩
open Classical in
/-- another place of a role -/
noncomputable def plUpd (pl : ρ → Nat) (r0 : ρ) (p : Nat) : ρ → Nat := fun r => if r = r0 then p else pl r
theorem plUpd_same (r0 : ρ) (p : Nat) : plUpd pl r0 p r0 = p := if_pos rfl
theorem plUpd_ne {r r0 : ρ} (h : r ≠ r0) (p : Nat) : plUpd pl r0 p r = pl r := if_neg h
/-- a role is moved to a new place, its holder is told so -/
theorem Holds.move (h : Holds is pl cell st) {r0 q : ρ} {p : Nat} {c cq : Cell} (h0 : is r0) (hq : is q) (n : r0 ≠ q) (hp : ∀ r, is r → pl r ≠ p) (hc : st[p]? = some c) (e0 : cell' r0 = c) (eq : cell' q = cq) (ho : ∀ r, is r → r ≠ r0 → r ≠ q → cell' r = cell r) :
    Holds is (plUpd pl r0 p) cell' (st.set (pl q) cq) :=
  ⟨fun r r' hr hr' e => by
    by_cases a : r = r0
    · by_cases b : r' = r0
      · rw [a, b]
      · rw [a, plUpd_same, plUpd_ne b] at e
        exact absurd e.symm (hp r' hr')
    · by_cases b : r' = r0
      · rw [b, plUpd_same, plUpd_ne a] at e
        exact absurd e (hp r hr)
      · rw [plUpd_ne a, plUpd_ne b] at e
        exact h.inj r r' hr hr' e,
   fun r hr => by
    by_cases a : r = r0
    · subst a
      rw [plUpd_same, List.getElem?_set_ne (hp q hq), hc, e0]
    · rw [plUpd_ne a]
      by_cases b : r = q
      · subst b
        rw [List.getElem?_set_self (h.lt hr), eq]
      · rw [List.getElem?_set_ne (h.ne hq hr (Ne.symm b)), h.get r hr, ho r hr a b]⟩
theorem Holds.chg (h : Holds is pl cell st) {F : Nat → Prop} (c : Chg F st st') (d : ∀ i, Foot is pl i → ¬ F i) : Holds is pl cell st' :=
  ⟨h.inj, fun r hr => (c.2 _ (h.lt hr) (d _ ⟨r, hr, rfl⟩)).trans (h.get r hr)⟩
/-- two objects lie apart -/
def Apart (F F2 : Nat → Prop) : Prop := ∀ i, F i → F2 i → False
theorem Apart.sub {F F' F2 : Nat → Prop} (a : Apart F F2) (s : Sub F st F') (h : ∀ i, F2 i → i < st.length) : Apart F' F2 := fun i h1 h2 => (s i h1).elim (fun z => a i z h2) fun z => Nat.not_lt.mpr z (h i h2)
theorem Apart.symm {F F2 : Nat → Prop} (a : Apart F F2) : Apart F2 F := fun i h1 h2 => a i h2 h1
theorem viewS_chg {F : Nat → Prop} {a : A} {xs : List A} (c : Chg F st st') (h : viewS st a = some xs) (d : ∀ i, a = .c i → ¬ F i) : viewS st' a = some xs := by
  cases a with
  | d x => cases x <;> first | exact h | cases h
  | c i =>
    rw [viewS_c] at h ⊢
    have hi : i < st.length := by
      apply Classical.byContradiction
      intro z
      rw [List.getElem?_eq_none (by omega)] at h
      cases h
    rw [c.2 i hi (d i rfl)]
    exact h
end
theorem gListOf_v {k : Bool} {a : A} {xs : List A} {st : Store} (h : viewS st a = some xs) : gListOf k [a] st = mkL k xs st := by
  unfold gListOf
  simp only [h]
theorem atI_range {α : Type} (n : Nat) (f : Nat → α) {d : Nat} (h : d < n) : atI ((List.range n).map f) (d : Int) = some (f d) := atI_nat (by rw [List.getElem?_map, List.getElem?_range h]; rfl)
theorem range_upd {α : Type} {n d : Nat} (f : Nat → α) (x : α) : ((List.range n).map f).set d x = (List.range n).map fun i => if i = d then x else f i := by
  apply List.ext_getElem?
  intro i
  by_cases e : d = i
  · subst e
    by_cases h : d < n
    · rw [List.getElem?_set_self (by rw [List.length_map, List.length_range]; exact h), List.getElem?_map, List.getElem?_range h, Option.map_some, if_pos rfl]
    · rw [List.getElem?_eq_none (by rw [List.length_set, List.length_map, List.length_range]; omega), List.getElem?_eq_none (by rw [List.length_map, List.length_range]; omega)]
  · rw [List.getElem?_set_ne e, List.getElem?_map, List.getElem?_map]
    by_cases h : i < n
    · rw [List.getElem?_range h, Option.map_some, Option.map_some, if_neg (Ne.symm e)]
    · rw [List.getElem?_eq_none (by rw [List.length_range]; omega)]; rfl
/-! ### rows of media, rows of waiting writes, truths, under a root -/
inductive Ro where
  | o | M | W | T | m (d : Nat) | w (d : Nat)
abbrev Root := Nat → Nat → Nat → Cell
def is3 (n : Nat) : Ro → Prop
  | .m d => d < n
  | .w d => d < n
  | _ => True
/-- another value at a place -/
def fset {α : Type} (f : Nat → α) (d : Nat) (x : α) : Nat → α := fun e => if e = d then x else f e
theorem fset_same {α : Type} (f : Nat → α) (d : Nat) (x : α) : fset f d x d = x := if_pos rfl
theorem fset_ne {α : Type} {f : Nat → α} {d e : Nat} (h : e ≠ d) (x : α) : fset f d x e = f e := if_neg h
def c3 (root : Root) (n : Nat) (f g : Nat → List D) (t : Nat → Bool) (pl : Ro → Nat) : Ro → Cell
  | .o => root (pl .M) (pl .W) (pl .T)
  | .M => .lst ((List.range n).map fun d => .c (pl (.m d)))
  | .W => .lst ((List.range n).map fun d => .c (pl (.w d)))
  | .T => .lst ((List.range n).map fun d => .d (.bl (t d)))
  | .m d => .lst ((f d).map .d)
  | .w d => .lst ((g d).map .d)
def H3 (root : Root) (n : Nat) (f g : Nat → List D) (t : Nat → Bool) (pl : Ro → Nat) (st : Store) : Prop := Holds (is3 n) pl (c3 root n f g t pl) st
section
variable {root root' : Root} {n : Nat} {f g : Nat → List D} {t : Nat → Bool} {pl : Ro → Nat} {st : Store} (h : H3 root n f g t pl st)
include h
theorem H3.o : st[pl .o]? = some (root (pl .M) (pl .W) (pl .T)) := h.get .o trivial
theorem H3.M : st[pl .M]? = some (.lst ((List.range n).map fun d => .c (pl (.m d)))) := h.get .M trivial
theorem H3.W : st[pl .W]? = some (.lst ((List.range n).map fun d => .c (pl (.w d)))) := h.get .W trivial
theorem H3.T : st[pl .T]? = some (.lst ((List.range n).map fun d => .d (.bl (t d)))) := h.get .T trivial
theorem H3.m {d : Nat} (hl : d < n) : st[pl (.m d)]? = some (.lst ((f d).map .d)) := h.get (.m d) hl
theorem H3.w {d : Nat} (hl : d < n) : st[pl (.w d)]? = some (.lst ((g d).map .d)) := h.get (.w d) hl
theorem H3.app (L : Store) : H3 root n f g t pl (st ++ L) := Holds.app h L
theorem H3.setO (root' : Root) : H3 root' n f g t pl (st.set (pl .o) (root' (pl .M) (pl .W) (pl .T))) :=
  Holds.set h (cell' := c3 root' n f g t pl) (r0 := .o) trivial rfl fun r _ n => by cases r <;> first | rfl | exact absurd rfl n
theorem H3.setT (d : Nat) (b : Bool) : H3 root n f g (fset t d b) pl (st.set (pl .T) (.lst (((List.range n).map fun d => A.d (.bl (t d))).set d (.d (.bl b))))) :=
  Holds.set h (cell' := c3 root n f g (fset t d b) pl) (r0 := .T) trivial (by
    show Cell.lst _ = _
    rw [range_upd]
    congr 1
    apply List.map_congr_left
    intro e _
    by_cases z : e = d
    · rw [z, if_pos rfl, fset_same]
    · rw [if_neg z, fset_ne z]) fun r _ n => by cases r <;> first | rfl | exact absurd rfl n
theorem H3.setw {d : Nat} (hd : d < n) (xs : List D) : H3 root n f (fset g d xs) t pl (st.set (pl (.w d)) (.lst (xs.map .d))) :=
  Holds.set h (cell' := c3 root n f (fset g d xs) t pl) (r0 := .w d) hd (by show Cell.lst ((fset g d xs d).map A.d) = _; rw [fset_same]) fun r _ n => by
    cases r with
    | w e =>
      show Cell.lst ((fset g d xs e).map A.d) = .lst ((g e).map A.d)
      rw [fset_ne fun z => n (by rw [z])]
    | _ => rfl
theorem H3.setm {d : Nat} (hd : d < n) (xs : List D) : H3 root n (fset f d xs) g t pl (st.set (pl (.m d)) (.lst (xs.map .d))) :=
  Holds.set h (cell' := c3 root n (fset f d xs) g t pl) (r0 := .m d) hd (by show Cell.lst ((fset f d xs d).map A.d) = _; rw [fset_same]) fun r _ n => by
    cases r with
    | m e =>
      show Cell.lst ((fset f d xs e).map A.d) = .lst ((f e).map A.d)
      rw [fset_ne fun z => n (by rw [z])]
    | _ => rfl
theorem H3.fresh {r : Ro} (hr : is3 n r) : pl r ≠ st.length := Nat.ne_of_lt (Holds.lt h hr)
/-- a new row of waiting writes -/
theorem H3.neww {d : Nat} (hd : d < n) (xs : List D) : H3 root n f (fset g d xs) t (plUpd pl (.w d) st.length) ((st ++ [Cell.lst (xs.map .d)]).set (pl .W) (.lst (((List.range n).map fun d => A.c (pl (.w d))).set d (.c st.length)))) :=
  (Holds.app h _).move (cell' := c3 root n f (fset g d xs) t (plUpd pl (.w d) st.length)) (r0 := .w d) (q := .W) hd trivial (fun z => nomatch z) (fun r hr => H3.fresh h hr) (c := .lst (xs.map .d))
    (by rw [List.getElem?_append_right (Nat.le_refl _), Nat.sub_self]; rfl) (by show Cell.lst ((fset g d xs d).map A.d) = _; rw [fset_same])
    (by
      show Cell.lst _ = _
      rw [range_upd]
      congr 1
      apply List.map_congr_left
      intro e _
      by_cases z : e = d
      · rw [z, if_pos rfl, plUpd_same]
      · rw [if_neg z, plUpd_ne fun y => z (by cases y; rfl)])
    fun r _ n1 n2 => by
      cases r with
      | w e =>
        show Cell.lst ((fset g d xs e).map A.d) = .lst ((g e).map A.d)
        rw [fset_ne fun z => n1 (by rw [z])]
      | W => exact absurd rfl n2
      | o => show root _ _ _ = root _ _ _; rw [plUpd_ne (show Ro.M ≠ Ro.w d from fun z => nomatch z), plUpd_ne (show Ro.W ≠ Ro.w d from fun z => nomatch z), plUpd_ne (show Ro.T ≠ Ro.w d from fun z => nomatch z)]
      | M =>
        show Cell.lst _ = Cell.lst _
        congr 1
        apply List.map_congr_left
        intro e _
        rw [plUpd_ne (show Ro.m e ≠ Ro.w d from fun z => nomatch z)]
      | _ => rfl
/-- .. of a medium -/
theorem H3.newm {d : Nat} (hd : d < n) (xs : List D) : H3 root n (fset f d xs) g t (plUpd pl (.m d) st.length) ((st ++ [Cell.lst (xs.map .d)]).set (pl .M) (.lst (((List.range n).map fun d => A.c (pl (.m d))).set d (.c st.length)))) :=
  (Holds.app h _).move (cell' := c3 root n (fset f d xs) g t (plUpd pl (.m d) st.length)) (r0 := .m d) (q := .M) hd trivial (fun z => nomatch z) (fun r hr => H3.fresh h hr) (c := .lst (xs.map .d))
    (by rw [List.getElem?_append_right (Nat.le_refl _), Nat.sub_self]; rfl) (by show Cell.lst ((fset f d xs d).map A.d) = _; rw [fset_same])
    (by
      show Cell.lst _ = _
      rw [range_upd]
      congr 1
      apply List.map_congr_left
      intro e _
      by_cases z : e = d
      · rw [z, if_pos rfl, plUpd_same]
      · rw [if_neg z, plUpd_ne fun y => z (by cases y; rfl)])
    fun r _ n1 n2 => by
      cases r with
      | m e =>
        show Cell.lst ((fset f d xs e).map A.d) = .lst ((f e).map A.d)
        rw [fset_ne fun z => n1 (by rw [z])]
      | M => exact absurd rfl n2
      | o => show root _ _ _ = root _ _ _; rw [plUpd_ne (show Ro.M ≠ Ro.m d from fun z => nomatch z), plUpd_ne (show Ro.W ≠ Ro.m d from fun z => nomatch z), plUpd_ne (show Ro.T ≠ Ro.m d from fun z => nomatch z)]
      | W =>
        show Cell.lst _ = Cell.lst _
        congr 1
        apply List.map_congr_left
        intro e _
        rw [plUpd_ne (show Ro.w e ≠ Ro.m d from fun z => nomatch z)]
      | _ => rfl
end
abbrev F3 (n : Nat) (pl : Ro → Nat) : Nat → Prop := Foot (is3 n) pl
theorem foot_upd {n : Nat} {pl : Ro → Nat} {r0 : Ro} {st : Store} : Sub (F3 n pl) st (F3 n (plUpd pl r0 st.length)) := fun i ⟨r, hr, e⟩ => by
  by_cases z : r = r0
  · subst z
    rw [plUpd_same] at e
    exact .inr (Nat.le_of_eq e)
  · rw [plUpd_ne z] at e
    exact .inl ⟨r, hr, e⟩
theorem H3.rows {root : Root} {n : Nat} {f f' g g' : Nat → List D} {t t' : Nat → Bool} {pl : Ro → Nat} {st : Store} (h : H3 root n f g t pl st) (hf : ∀ d, d < n → f d = f' d) (hg : ∀ d, d < n → g d = g' d) (ht : ∀ d, d < n → t d = t' d) : H3 root n f' g' t' pl st :=
  ⟨h.inj, fun r hr => (h.get r hr).trans (congrArg some (by
    cases r with
    | m d => show Cell.lst ((f d).map A.d) = .lst ((f' d).map A.d); rw [hf d hr]
    | w d => show Cell.lst ((g d).map A.d) = .lst ((g' d).map A.d); rw [hg d hr]
    | T =>
      show Cell.lst _ = Cell.lst _
      congr 1
      apply List.map_congr_left
      intro e he
      rw [ht e (List.mem_range.mp he)]
    | _ => rfl))⟩
theorem take_succ_get {α : Type} {xs : List α} {i : Nat} {x : α} (h : xs[i]? = some x) : xs.take (i + 1) = xs.take i ++ [x] := by
  rw [List.take_add_one, h]; rfl
/-! loops that may end early -/
section
variable {σ : Slots} {st : Store} {g : MG} {b : MS} {ok : Store → Prop}
theorem forA_find {xs : List A} {o : Out} (ho : forA g b ok xs σ st = o) (I : Nat → Slots → Store → Prop) (p : A → Bool) (h0 : I 0 σ st) (hok : ∀ i σ st, i ≤ xs.length → I i σ st → ok st)
    (hn : ∀ i x σ st, xs[i]? = some x → p x = false → I i σ st → Nxt (I (i + 1)) (turn g b x σ st)) (hr : ∀ i x σ st, xs[i]? = some x → p x = true → I i σ st → ∃ a st1, turn g b x σ st = .rt a st1) :
    (xs.find? p = none ∧ ∃ σ' st', o = .nx σ' st' ∧ I xs.length σ' st') ∨ (∃ x i σ1 st1, xs.find? p = some x ∧ xs[i]? = some x ∧ I i σ1 st1 ∧ o = turn g b x σ1 st1) := by
  subst ho
  induction xs generalizing σ st I with
  | nil => exact .inl ⟨rfl, σ, st, by rw [forA, needO_pos (hok 0 _ _ (Nat.le_refl _) h0)], h0⟩
  | cons x xs ih =>
    have e0 : forA g b ok (x :: xs) σ st = match turn g b x σ st with
      | .nx σ2 st2 => forA g b ok xs σ2 st2
      | .ct σ2 st2 => forA g b ok xs σ2 st2
      | .bk σ2 st2 => .nx σ2 st2
      | o => o := by
      rw [forA, needO_pos (hok 0 _ _ (Nat.zero_le _) h0)]
      unfold turn
      cases g x σ st with
      | none => rfl
      | some y => rfl
    cases hp : p x with
    | true =>
      obtain ⟨a, st1, e1⟩ := hr 0 x σ st rfl hp h0
      refine .inr ⟨x, 0, σ, st, by rw [List.find?_cons, hp], rfl, h0, ?_⟩
      rw [e0, e1]
    | false =>
      have ht := hn 0 x σ st rfl hp h0
      have key : ∃ σ2 st2, forA g b ok (x :: xs) σ st = forA g b ok xs σ2 st2 ∧ I 1 σ2 st2 := by
        rw [e0]
        cases hb : turn g b x σ st with
        | nx σ2 st2 => rw [hb] at ht; exact ⟨σ2, st2, rfl, ht⟩
        | ct σ2 st2 => rw [hb] at ht; exact ⟨σ2, st2, rfl, ht⟩
        | _ => rw [hb] at ht; exact ht.elim
      obtain ⟨σ2, st2, e2, i2⟩ := key
      rw [e2]
      have z := ih (σ := σ2) (st := st2) (fun i => I (i + 1)) i2 (fun i σ st hi h => hok (i + 1) σ st (Nat.succ_le_succ hi) h) (fun i y σ st hy hp h => hn (i + 1) y σ st hy hp h) (fun i y σ st hy hp h => hr (i + 1) y σ st hy hp h)
      rcases z with ⟨z1, σ', st', z2, z3⟩ | ⟨y, i, σ1, st1, z1, z2, z3, z4⟩
      · exact .inl ⟨by rw [List.find?_cons, hp]; exact z1, σ', st', z2, z3⟩
      · exact .inr ⟨y, i + 1, σ1, st1, by rw [List.find?_cons, hp]; exact z1, z2, z3, z4⟩
end
theorem gLen_v {a : A} {xs : List A} {st : Store} (h : viewS st a = some xs) : gLen [a] st = .ok (.d (.int (xs.length : Nat))) st := by
  unfold gLen
  simp only [h]
theorem gIx_v {a y : A} {xs : List A} {st : Store} {i : Int} (h : viewS st a = some xs) (hy : atI xs i = some y) : gIx a (.d (.int i)) st = .ok y st := by
  cases a with
  | c k =>
    rw [gIx_c]
    rw [viewS_c] at h
    split at h
    · rename_i e
      cases h
      rw [e]
      show (match atI xs i with | some x => Res.ok x st | none => .no) = _
      rw [hy]
    · rename_i ds e
      cases h
      rw [e]
      show (match atI (ds.map A.d) i with | some x => Res.ok x st | none => .no) = _
      rw [hy]
    · cases h
  | d x => cases x with
    | list ds => cases h; rw [gIx_l, hy]
    | scr ds => cases h; rw [gIx_s, hy]
    | _ => cases h
/-- [h x for x in xs], to be changed -/
theorem mLc_allC {it : MI} {vs : List Nat} {pt : Pt} {f : ME} {σ : Slots} {st st1 : Store} {xs : List A} {ok : Store → Prop} (h : A → D) (hit : it σ st = .ok ⟨xs, ok⟩ st1) (hok : ∀ ac : List A, ok (st1 ++ [.lst ac])) (hl : xs.length ≤ SZ)
    (ht : ∀ x ∈ xs, ∀ ac : List A, ∃ σ1, pt (wipeA σ vs) x = some σ1 ∧ f σ1 (st1 ++ [.lst ac]) = .ok (.d (h x)) (st1 ++ [.lst ac])) :
    mLc true vs pt it mYes f σ st = .ok (.c st1.length) (st1 ++ [.lst ((xs.map h).map A.d)]) := by
  obtain ⟨acc, s', e1, _, rfl, e3⟩ := mLc_cells (vs := vs) (pt := pt) (f := f) (fun i acc s' => s' = st1 ++ [.lst acc] ∧ acc = ((xs.take i).map h).map A.d) hit hl ⟨rfl, rfl⟩ (fun _ acc _ ⟨e, _⟩ => by rw [e]; exact hok acc) fun i x acc s' hx _ hI => by
    obtain ⟨rfl, ha⟩ := hI
    obtain ⟨σ1, e1, e2⟩ := ht x (List.mem_of_getElem? hx) acc
    refine ⟨σ1, _, _, e1, e2, by rw [List.getElem?_append_right (Nat.le_refl _), Nat.sub_self]; rfl, by rw [List.set_append_right _ _ (Nat.le_refl _), Nat.sub_self]; rfl, ?_⟩
    rw [ha, take_succ_get hx, List.map_append, List.map_append]
    rfl
  rw [e1, e3, List.take_length]
/-- [.. for _ in range(n)], each element a new cell -/
theorem mLc_news {σ : Slots} {st st1 : Store} {it : MI} {f : ME} {k : Nat} (C : Cell) (n : Nat) (hn : n ≤ 1000) (hit : it σ st = .ok ⟨rangeA 0 n 1, fun _ => True⟩ st1)
    (hf : ∀ (v : Option A) s, f ((wipeA σ [k]).set k v) s = .ok (.c s.length) (s ++ [C])) :
    mLc true [k] (pt1 k) it mYes f σ st = .ok (.c st1.length) (st1 ++ .lst ((List.range n).map fun i => A.c (st1.length + 1 + i)) :: List.replicate n C) := by
  obtain ⟨acc, s', e1, _, e2, e3⟩ := mLc_cells (vs := [k]) (pt := pt1 k) (f := f)
    (fun i acc s' => s' = st1 ++ .lst acc :: List.replicate i C ∧ acc = (List.range i).map fun i => A.c (st1.length + 1 + i)) hit (by rw [rangeA_length]; unfold SZ; omega) ⟨rfl, rfl⟩ (fun _ _ _ _ => trivial) fun i x acc s' hx _ hI => by
      obtain ⟨rfl, ha⟩ := hI
      refine ⟨_, _, _, rfl, hf _ _, ?_, ?_, ?_⟩
      · rw [List.append_assoc, List.getElem?_append_right (Nat.le_refl _), Nat.sub_self]
        rfl
      · rw [List.append_assoc, List.set_append_right _ _ (Nat.le_refl _), Nat.sub_self]
        show st1 ++ (Cell.lst _ :: (List.replicate i C ++ [_])) = _
        rw [List.replicate_succ']
      · rw [ha, List.range_succ, List.map_append, List.length_append, List.length_cons, List.length_replicate]
        congr 1
        show [A.c (st1.length + (i + 1))] = [A.c (st1.length + 1 + i)]
        rw [show st1.length + (i + 1) = st1.length + 1 + i by omega]
  rw [e1, e2, e3, rangeA_length]
end Am
/-! ### Am: dicts -/
namespace Am
open PySem PySem.Spec PyProof.Rows L2
def mDNewK : ME := fun _ st => .ok (.c st.length) (st ++ [.dK []])
def mDNewT : ME := fun _ st => .ok (.c st.length) (st ++ [.dT []])
/-- what stands under a key, or what is told -/
def gDGet (o y z : A) (st : Store) : Res A := match viewK st o with
  | some kvs => match keyA y with
    | some k => .ok ((lookK kvs k).getD z) st
    | none => .no
  | none => match viewDT st o with
    | some kvs => match keysT y with
      | some k => .ok ((lookK kvs k).getD z) st
      | none => .no
    | none => .no
def isDA (st : Store) (o : A) : Bool := (viewK st o).isSome || (viewDT st o).isSome
def mDGet1 (fo fk : ME) : ME := fun σ st => (fo σ st).bind fun o st1 => if isDA st1 o then (fk σ st1).bind fun y st2 => gDGet o y (.d .non) st2 else .no
def mDGet2 (fo fk fz : ME) : ME := fun σ st => (fo σ st).bind fun o st1 => if isDA st1 o then (fk σ st1).bind fun y st2 => (fz σ st2).bind fun z st3 => gDGet o y z st3 else .no
/-- d.pop(k), which is there -/
def gDPop : A → A → Store → Res A
  | .c i, y, st => match st[i]? with
    | some (.dK xs) => match keyA y with
      | some k => match lookK xs k with
        | some a => .ok a (st.set i (.dK (dropA xs k)))
        | none => .no
      | none => .no
    | _ => .no
  | _, _, _ => .no
def mDPop (fo fk : ME) : ME := fun σ st => (fo σ st).bind fun o st1 => if isDA st1 o then (fk σ st1).bind fun y st2 => gDPop o y st2 else .no
section
variable {X : Cx} {c : Ctx} {W : WX} {o e f : Expr} {fo fk fz : ME} {k : Nat} {pos apos cpos : Pos}
theorem e_dnewK : PE X (.Dict [] [] pos) (tM c W mDNewK) := pe_imp pe_dnewK fun σ H Q ⟨w, σa, st, rl, p⟩ q hq =>
  p _ _ _ (by rw [List.length_append]; exact w.cell_ext st.length q) (rl.push (o := .dK []) (x := .dK []) hq ⟨rl.rs.same.free hq, [], upd_same, .nil⟩) ⟨by rw [List.length_append]; exact Nat.lt_succ_self _, by rw [w.cell_at]⟩
theorem e_dnewT : PE X (.Dict [] [] pos) (tM c W mDNewT) := pe_imp pe_dnewT fun σ H Q ⟨w, σa, st, rl, p⟩ q hq =>
  p _ _ _ (by rw [List.length_append]; exact w.cell_ext st.length q) (rl.push (o := .dT []) (x := .dT []) hq ⟨rl.rs.same.free hq, [], upd_same, .nil⟩) ⟨by rw [List.length_append]; exact Nat.lt_succ_self _, by rw [w.cell_at]⟩
theorem isDA_ok {w : Wd} {st : Store} {H : Hp} (rl : RelS c w st H) {x : A} {v : V} (r : RA c w st.length v x) (h : isDA st x = true) : ∃ a, v = .ref a ∧ IsD H a := by
  unfold isDA at h
  rw [Bool.or_eq_true, Option.isSome_iff_exists, Option.isSome_iff_exists] at h
  rcases h with ⟨kvs, h⟩ | ⟨kvs, h⟩
  · obtain ⟨a, us, rfl, q, _⟩ := viewK_ok rl r h
    exact ⟨a, rfl, .inl ⟨us, q⟩⟩
  · obtain ⟨a, us, rfl, q, _⟩ := viewDT_ok rl r h
    exact ⟨a, rfl, .inr ⟨us, q⟩⟩
theorem gDGet_ok {w : Wd} {σa : Slots} {st : Store} {σ : L2.St} {H : Hp} {x y z : A} {v u t : V} {Q : VK} (rl : Rel c w σa st σ H) (rx : RA c w st.length v x) (ry : RA c w st.length u y) (rz : RA c w st.length t z) (p : Post c w st.length σa σ (RA c) W Q (gDGet x y z st)) :
    ∃ a o, v = .ref a ∧ DGet H a u o ∧ Q (o.getD t) H := by
  unfold gDGet at p
  split at p
  · rename_i hv
    obtain ⟨a, us, rfl, q, pr⟩ := viewK_ok rl.rs rx hv
    split at p
    · rename_i kk hk
      have := keyA_ok ry hk
      subst this
      refine ⟨a, _, rfl, dget_k q, p.here rl ?_⟩
      obtain ⟨l1, l2⟩ := lookK_ok (k := kk) pr
      cases hl : lookK _ kk with
      | none => rw [l1 hl]; exact rz
      | some b => obtain ⟨v, e, r⟩ := l2 b hl; rw [e]; exact r
    · exact p.elim
  · split at p
    · rename_i hv
      obtain ⟨a, us, rfl, q, pr⟩ := viewDT_ok rl.rs rx hv
      split at p
      · rename_i kk hk
        obtain ⟨b, rfl, eb⟩ := keysT_ok rl.rs.same ry hk
        refine ⟨a, _, rfl, dget_t q eb, p.here rl ?_⟩
        obtain ⟨l1, l2⟩ := lookK_ok (k := kk) pr
        cases hl : lookK _ kk with
        | none => rw [l1 hl]; exact rz
        | some b => obtain ⟨v, e, r⟩ := l2 b hl; rw [e]; exact r
      · exact p.elim
    · exact p.elim
theorem e_dget1 (hr : Room k X.A) (ho : PE X o (tM c W fo)) (he : PE X e (tM c W fk)) (m : M1 X o "get" apos e cpos := by exact ⟨rfl, rfl, rfl, rfl⟩) : PE X (.Call (.Attribute o "get" apos) [e] [] cpos) (tM c W (mDGet1 fo fk)) :=
  pe_imp (pe_dget1 (hu_of hr) ho he m) fun σ H Q ⟨w, σa, st, rl, p⟩ => ⟨w, σa, st, rl, p.bind fun v x st1 w1 H1 _ rl1 rx p1 => by
    split at p1
    · rename_i hd
      obtain ⟨a, rfl, q⟩ := isDA_ok rl1.rs rx hd
      refine ⟨a, rfl, q, w1, σa, st1, rl1, p1.bind fun u y st2 w2 H2 e2 rl2 ry p2 => ?_⟩
      obtain ⟨a', o, e, g, q⟩ := gDGet_ok (t := .non) (z := .d .non) rl2 (rx.ext e2) ry rfl p2
      cases e
      exact ⟨o, g, q⟩
    · exact p1.elim⟩
theorem e_dget2 (hr : Room k X.A) (ho : PE X o (tM c W fo)) (he : PE X e (tM c W fk)) (hf : PE X f (tM c W fz)) (m : M2 X o "get" apos e f cpos := by exact ⟨rfl, rfl, rfl, rfl⟩) : PE X (.Call (.Attribute o "get" apos) [e, f] [] cpos) (tM c W (mDGet2 fo fk fz)) :=
  pe_imp (pe_dget2 (hu_of hr) ho he hf m) fun σ H Q ⟨w, σa, st, rl, p⟩ => ⟨w, σa, st, rl, p.bind fun v x st1 w1 H1 _ rl1 rx p1 => by
    split at p1
    · rename_i hd
      obtain ⟨a, rfl, q⟩ := isDA_ok rl1.rs rx hd
      refine ⟨a, rfl, q, w1, σa, st1, rl1, p1.bind fun u y st2 w2 H2 e2 rl2 ry p2 => ⟨w2, σa, st2, rl2, p2.bind fun t z st3 w3 H3 e3 rl3 rz p3 => ?_⟩⟩
      obtain ⟨a', o, e, g, q⟩ := gDGet_ok rl3 ((rx.ext e2).ext e3) (ry.ext e3) rz p3
      cases e
      exact ⟨o, g, q⟩
    · exact p1.elim⟩
theorem e_dpop1 (ho : PE X o (tM c W fo)) (he : PE X e (tM c W fk)) (m : M1 X o "pop" apos e cpos := by exact ⟨rfl, rfl, rfl, rfl⟩) : PE X (.Call (.Attribute o "pop" apos) [e] [] cpos) (tM c W (mDPop fo fk)) :=
  pe_imp (pe_dpop1 ho he m) fun σ H Q ⟨w, σa, st, rl, p⟩ => ⟨w, σa, st, rl, p.bind fun v x st1 w1 H1 _ rl1 rx p1 => by
    split at p1
    · rename_i hd
      obtain ⟨a, rfl, q⟩ := isDA_ok rl1.rs rx hd
      refine ⟨a, rfl, q, w1, σa, st1, rl1, p1.bind fun u y st2 w2 H2 e2 rl2 ry p2 => ?_⟩
      unfold gDPop at p2
      split at p2
      · split at p2
        · rename_i hk
          obtain ⟨g, us, e, pr⟩ := rl2.rs.cell _ _ hk
          split at p2
          · rename_i kk hy
            have := keyA_ok ry hy
            subst this
            split at p2
            · rename_i b hl
              obtain ⟨v, ev, rv⟩ := (lookK_ok pr).2 b hl
              obtain ⟨_, ea⟩ := rx.ext e2
              cases ea
              refine ⟨us, kk, v, e, rfl, ev, p2 _ w2 _ (by rw [List.length_set]; exact Ext.refl _ _) (rl2.write hk g ⟨g, _, upd_same, dropA_ok pr⟩) (by rw [List.length_set]; exact rv)⟩
            · exact p2.elim
          · exact p2.elim
        · exact p2.elim
      · exact p2.elim
    · exact p1.elim⟩
end
/-! as steps -/
section
variable (σ : Slots) (st : Store)
theorem mDNewK_ap : mDNewK σ st = .ok (.c st.length) (st ++ [.dK []]) := rfl
theorem mDNewT_ap : mDNewT σ st = .ok (.c st.length) (st ++ [.dT []]) := rfl
def dgC (x : Option Cell) (y z : A) (st : Store) : Res A := match x with
  | some (.dK kvs) => match keyA y with
    | some k => .ok ((lookK kvs k).getD z) st
    | none => .no
  | some (.dT kvs) => match keysT y with
    | some k => .ok ((lookK kvs k).getD z) st
    | none => .no
  | _ => .no
theorem mDGet1_c {fo fk : ME} {i : Nat} {y : A} {st1 : Store} {kvs : List (Key × A)} (ho : fo σ st = .ok (.c i) st) (hi : st[i]? = some (.dK kvs)) (hk : fk σ st = .ok y st1) (hi1 : st1[i]? = some (.dK kvs)) {k : Key} (hy : keyA y = some k) : mDGet1 fo fk σ st = .ok ((lookK kvs k).getD (.d .non)) st1 := by
  unfold mDGet1
  rw [ho]
  show (if isDA st (.c i) then _ else _) = _
  rw [show isDA st (.c i) = true by unfold isDA viewK; simp only [hi]; rfl, if_pos rfl, hk]
  show gDGet (.c i) y (.d .non) st1 = _
  unfold gDGet viewK
  simp only [hi1, hy]
end
/-! a store into a place, by what the cell holds -/
noncomputable def subC (x : Option Cell) (k : Nat) (j : Int) (a : A) (σ : Slots) (st : Store) : Option (Slots × Store) := match x with
  | some (.lst xs) => match ixN xs.length j with
    | some n => some (σ, st.set k (.lst (xs.set n a)))
    | none => none
  | some (.dK xs) => match gSet (.c k) (.d (.int j)) a st with
    | some st3 => some (σ, st3)
    | none => none
  | _ => none
theorem sub3_c (k : Nat) (j : Int) (a : A) (σ : Slots) (st : Store) : sub3 (.c k) (.d (.int j)) a σ st = subC st[k]? k j a σ st := by
  unfold sub3
  show (match gSet (.c k) (.d (.int j)) a st with | some st3 => some (σ, st3) | none => none) = _
  cases h : st[k]? with
  | none => unfold gSet subC; simp only [h]
  | some x => cases x with
    | lst xs =>
      unfold gSet subC
      simp only [h]
      cases ixN xs.length j <;> rfl
    | dK xs => rfl
    | dT xs => unfold gSet subC; simp only [h, keysT]
    | _ => unfold gSet subC; simp only [h]
theorem subC_l (xs : List A) (k : Nat) (j : Int) (a : A) (σ : Slots) (st : Store) : subC (some (.lst xs)) k j a σ st = match ixN xs.length j with
    | some n => some (σ, st.set k (.lst (xs.set n a)))
    | none => none := rfl
theorem need_T {α : Type} (r : Res α) : need True r = r := need_pos trivial
theorem ifc_T {α : Sort _} (a b : α) : ifc True a b = a := ifc_pos trivial
theorem needO_T (o : Out) : needO True o = o := needO_pos trivial
theorem ix4_1 : ixN 4 1 = some 1 := by decide
theorem ix4_2 : ixN 4 2 = some 2 := by decide
theorem ix4_3 : ixN 4 3 = some 3 := by decide
/-! try, folded -/
def tryO (isE : Str → Str → Option Bool) (y : Str) (o : Out) (s : MS) : Out := match o with
  | .ex x σ1 st1 => match isE x.cls y with
    | some true => noExO (s σ1 st1)
    | some false => .ex x σ1 st1
    | none => .no
  | o => o
def tryB (b : Option Bool) (x : Exn) (s : MS) (σ1 : Slots) (st1 : Store) : Out := match b with
  | some true => noExO (s σ1 st1)
  | some false => .ex x σ1 st1
  | none => .no
theorem mTry_ap (isE : Str → Str → Option Bool) (y : Str) (b s : MS) (σ : Slots) (st : Store) : mTry isE y b s σ st = tryO isE y (b σ st) s := by
  unfold mTry tryO
  cases b σ st <;> rfl
theorem tryO_ex (isE : Str → Str → Option Bool) (y z : Str) (fs : Option (List (Str × D))) (σ1 : Slots) (st1 : Store) (s : MS) : tryO isE y (.ex ⟨z, fs⟩ σ1 st1) s = tryB (isE z y) ⟨z, fs⟩ s σ1 st1 := by
  unfold tryO tryB
  rfl
theorem tryB_t (x : Exn) (s : MS) (σ1 : Slots) (st1 : Store) : tryB (some true) x s σ1 st1 = noExO (s σ1 st1) := rfl
theorem tryO_nx (isE : Str → Str → Option Bool) (y : Str) (σ1 : Slots) (st1 : Store) (s : MS) : tryO isE y (.nx σ1 st1) s = .nx σ1 st1 := rfl
theorem tryO_rt (isE : Str → Str → Option Bool) (y : Str) (a : A) (st1 : Store) (s : MS) : tryO isE y (.rt a st1) s = .rt a st1 := rfl
theorem noExO_nx (σ1 : Slots) (st1 : Store) : noExO (.nx σ1 st1) = .nx σ1 st1 := rfl
theorem noExO_rt (a : A) (st1 : Store) : noExO (.rt a st1) = .rt a st1 := rfl
end Am
/-! ### Am: except X as e: the suite asks isinstance(e, C) -/
namespace Am
open PySem PySem.Spec PyProof.Rows L2
/-- a wish with a fact about the names -/
def tMP (Φ : L2.St → Wd → Prop) (c : Ctx) (W : WX) (f : ME) : TE := fun σ H Q => ∃ w σa st, Φ σ w ∧ Rel c w σa st σ H ∧ Post c w st.length σa σ (RA c) W Q (f σa st)
def tTP (Φ : L2.St → Wd → Prop) (c : Ctx) (W : WX) (f : MT) : TT := fun σ H Q => ∃ w σa st, Φ σ w ∧ Rel c w σa st σ H ∧ Post c w st.length σa σ (fun _ _ b b' => b = b') W Q (f σa st)
def tMAP (Φ : L2.St → Wd → Prop) (c : Ctx) (W : WX) (f : MA) : TA := fun σ H Q => ∃ w σa st, Φ σ w ∧ Rel c w σa st σ H ∧ Post c w st.length σa σ (fun w n => Paired (RA c w n)) W Q (f σa st)
def tMSP (Φ : L2.St → Wd → Prop) (c : Ctx) (W : WX) (m : MS) : TS := fun D σ H => ∃ w σa st, Φ σ w ∧ Rel c w σa st σ H ∧ PostO c w st.length W D (m σa st)
def Lasts (Φ : L2.St → Wd → Prop) : Prop := ∀ σ w w' n n', Ext w n w' n' → Φ σ w → Φ σ w'
section
variable {X : Cx} {c : Ctx} {W : WX} {Φ : L2.St → Wd → Prop} {e a b : Expr} {es rest : List Expr} {f fa fb : ME} {fs fr : MA} {t ta tb : MT} {m k : MS} {p pos : Pos}
theorem p_of (h : PE X e (tM c W f)) : PE X e (tMP Φ c W f) := pe_imp h fun _ _ _ ⟨w, σa, st, _, rl, q⟩ => ⟨w, σa, st, rl, q⟩
theorem pt_of (h : PT X e (tT c W t)) : PT X e (tTP Φ c W t) := pt_imp h fun _ _ _ ⟨w, σa, st, _, rl, q⟩ => ⟨w, σa, st, rl, q⟩
theorem ps_of {s : Stmt} (h : PS X s (tMS c W m)) : PS X s (tMSP Φ c W m) := ps_imp h fun _ _ _ ⟨w, σa, st, _, rl, q⟩ => ⟨w, σa, st, rl, q⟩
theorem pss_of {s : List Stmt} (h : PSs X s (tMS c W m)) : PSs X s (tMSP Φ c W m) := pss_imp h fun _ _ _ ⟨w, σa, st, _, rl, q⟩ => ⟨w, σa, st, rl, q⟩
theorem p_not (ha : PE X a (tMP Φ c W f)) (F : Fits X c := by exact ⟨rfl, rfl⟩) : PE X (.UnaryOp .Not a pos) (tMP Φ c W (mNotV f)) := pe_imp (pe_notT ha) fun σ H Q ⟨w, σa, st, ph, rl, p⟩ => ⟨w, σa, st, ph, rl, p.bind fun v x st1 w1 H1 _ rl1 rx p1 => by
  split at p1
  · rename_i k hk
    rw [F.K]
    exact ⟨k, truthA_ok rl1.rs rx hk, p1.here rl1 rfl⟩
  · exact p1.elim⟩
theorem p_one {op} (ha : PE X a (tMP Φ c W f)) : PE X (.BoolOp op [a] pos) (tMP Φ c W f) := pe_one ha
theorem p_and (L : Lasts Φ) (ha : PE X a (tMP Φ c W fa)) (hb : PE X (.BoolOp .And (b :: rest) pos) (tMP Φ c W fb)) (F : Fits X c := by exact ⟨rfl, rfl⟩) : PE X (.BoolOp .And (a :: b :: rest) pos) (tMP Φ c W (mAndV fa fb)) := pe_imp (pe_andT ha hb) fun σ H Q ⟨w, σa, st, ph, rl, p⟩ =>
  ⟨w, σa, st, ph, rl, p.bind fun v x st1 w1 H1 e1 rl1 rx p1 => by
    rw [F.K]
    split at p1
    · rename_i hk
      exact ⟨true, truthA_ok rl1.rs rx hk, iteT ⟨w1, σa, st1, L _ _ _ _ _ e1 ph, rl1, p1⟩⟩
    · rename_i hk
      exact ⟨false, truthA_ok rl1.rs rx hk, iteF (p1.here rl1 rx)⟩
    · exact p1.elim⟩
theorem p_or (L : Lasts Φ) (ha : PE X a (tMP Φ c W fa)) (hb : PE X (.BoolOp .Or (b :: rest) pos) (tMP Φ c W fb)) (F : Fits X c := by exact ⟨rfl, rfl⟩) : PE X (.BoolOp .Or (a :: b :: rest) pos) (tMP Φ c W (mOrV fa fb)) := pe_imp (pe_orT ha hb) fun σ H Q ⟨w, σa, st, ph, rl, p⟩ =>
  ⟨w, σa, st, ph, rl, p.bind fun v x st1 w1 H1 e1 rl1 rx p1 => by
    rw [F.K]
    split at p1
    · rename_i hk
      exact ⟨true, truthA_ok rl1.rs rx hk, iteT (p1.here rl1 rx)⟩
    · rename_i hk
      exact ⟨false, truthA_ok rl1.rs rx hk, iteF ⟨w1, σa, st1, L _ _ _ _ _ e1 ph, rl1, p1⟩⟩
    · exact p1.elim⟩
theorem pt_tru (ha : PE X a (tMP Φ c W f)) (he : ∀ whole, isTrue a X.env whole = (do let v ← whole; standAt a.pos; holding [v] (truthy v)) := by intro _; rfl) (F : Fits X c := by exact ⟨rfl, rfl⟩) : PT X a (tTP Φ c W (mTru f)) :=
  pt_imp (pt_truth ha he) fun σ H Q ⟨w, σa, st, ph, rl, p⟩ => ⟨w, σa, st, ph, rl, p.bind fun v x st1 w1 H1 _ rl1 rx p1 => by
    split at p1
    · rename_i k hk
      rw [F.K]
      exact ⟨k, truthA_ok rl1.rs rx hk, p1.here rl1 rfl⟩
    · exact p1.elim⟩
theorem pt_notP (ha : PT X a (tTP Φ c W ta)) : PT X (.UnaryOp .Not a pos) (tTP Φ c W (mNot ta)) := pt_imp (pt_not ha) fun σ H Q ⟨w, σa, st, ph, rl, p⟩ => ⟨w, σa, st, ph, rl, p.bind fun v x st1 w1 H1 _ rl1 rx p1 => by
  subst rx
  exact p1.here rl1 rfl⟩
theorem wp_and1 (ha : PT X a (tTP Φ c W ta)) : PW X (.BoolOp .And [a] pos) (tTP Φ c W ta) := pw_and1 ha
theorem wp_or1 (ha : PT X a (tTP Φ c W ta)) : PW X (.BoolOp .Or [a] pos) (tTP Φ c W ta) := pw_or1 ha
theorem wp_and (L : Lasts Φ) (ha : PT X a (tTP Φ c W ta)) (hb : PW X (.BoolOp .And (b :: rest) pos) (tTP Φ c W tb)) : PW X (.BoolOp .And (a :: b :: rest) pos) (tTP Φ c W (mAnd ta tb)) := pw_imp (pw_and ha hb) fun σ H Q ⟨w, σa, st, ph, rl, p⟩ =>
  ⟨w, σa, st, ph, rl, p.bind fun v x st1 w1 H1 e1 rl1 rx p1 => by
    subst rx
    cases v with
    | true => exact iteT ⟨w1, σa, st1, L _ _ _ _ _ e1 ph, rl1, p1⟩
    | false => exact iteF (p1.here rl1 rfl)⟩
theorem wp_or (L : Lasts Φ) (ha : PT X a (tTP Φ c W ta)) (hb : PW X (.BoolOp .Or (b :: rest) pos) (tTP Φ c W tb)) : PW X (.BoolOp .Or (a :: b :: rest) pos) (tTP Φ c W (mOr ta tb)) := pw_imp (pw_or ha hb) fun σ H Q ⟨w, σa, st, ph, rl, p⟩ =>
  ⟨w, σa, st, ph, rl, p.bind fun v x st1 w1 H1 e1 rl1 rx p1 => by
    subst rx
    cases v with
    | true => exact iteT (p1.here rl1 rfl)
    | false => exact iteF ⟨w1, σa, st1, L _ _ _ _ _ e1 ph, rl1, p1⟩⟩
theorem pt_bool (h : PW X e (tTP Φ c W ta)) : PT X e (tTP Φ c W ta) := h.pt
theorem pa_nilP : PA X [] (tMAP Φ c W mNil) := pa_imp pa_nil fun _ _ _ ⟨_, _, _, _, rl, p⟩ => p.here rl .nil
theorem pa_consP (L : Lasts Φ) (ha : PE X e (tMP Φ c W fa)) (hr : PA X es (tMAP Φ c W fr)) (hs : starEach (e :: es) X.env = (false, eval e X.env) :: starEach es X.env := by rfl) : PA X (e :: es) (tMAP Φ c W (mCons fa fr)) :=
  pa_imp (pa_cons ha hr hs) fun σ H Q ⟨w, σa, st, ph, rl, p⟩ => ⟨w, σa, st, ph, rl, p.bind fun v x st1 w1 H1 e1 rl1 rx p1 => ⟨w1, σa, st1, L _ _ _ _ _ e1 ph, rl1, p1.bind fun vs xs st2 w2 H2 e2 rl2 rxs p2 => p2.here rl2 (.cons (rx.ext e2) rxs)⟩⟩
theorem p_list (k : Bool) (h : PA X es (tMAP Φ c W fr)) : PE X (.List es pos) (tMP Φ c W (mList k fr)) := pe_imp (pe_lst h) fun σ H Q ⟨w, σa, st, ph, rl, p⟩ =>
  ⟨w, σa, st, ph, rl, p.bind fun vs xs st1 w1 H1 _ rl1 r p1 => mkL_ok rl1 r p1⟩
theorem p_tup {x1} (h : PA X es (tMAP Φ c W fr)) : PE X (.Tuple es x1 pos) (tMP Φ c W (mTup fr)) := pe_imp (pe_tup h) fun σ H Q ⟨w, σa, st, ph, rl, p⟩ =>
  ⟨w, σa, st, ph, rl, p.bind fun vs xs st1 w1 H1 _ rl1 r p1 => mkT_ok rl1 r p1⟩
theorem p_int (ha : PA X (e :: []) (tMAP Φ c W fs)) (hm : c.mg "int" = none) (hgl : Gl X "int" := by rfl) (F : Fits X c := by exact ⟨rfl, rfl⟩) (he : starEach (e :: []) X.env = (false, eval e X.env) :: starEach [] X.env := by rfl) (hpl : (backTo pos (starEach [] X.env)).any (·.1) = false := by rfl) : PE X (.Call (.Name "int" p) [e] [] pos) (tMP Φ c W (mCallB gInt fs)) :=
  pe_imp (pe_callTy call_int1 hgl (by rw [F.mg]; exact hm) boot_int ha (by decide) (by decide) he hpl) fun σ H Q ⟨w, σa, st, ph, rl, q⟩ => ⟨w, σa, st, ph, rl, q.bind fun vs xs st1 w1 H1 _ rl1 rx p1 => gInt_ok w1 σa st1 σ H1 xs vs W Q rl1 rx p1⟩
theorem p_ret (h : PE X e (tMP Φ c W f)) : PS X (.Return (some e) pos) (tMSP Φ c W (mRet f)) := ps_imp (ps_ret h) fun D σ H ⟨w, σa, st, ph, rl, p⟩ =>
  ⟨w, σa, st, ph, rl, PostO.lift p fun _ _ _ _ _ _ rl1 r p1 => p1.ret rl1.rs r⟩
theorem p_if (L : Lasts Φ) {q r : List Stmt} (h : PT X e (tTP Φ c W t)) (h1 : PSs X q (tMSP Φ c W m)) (h2 : PSs X r (tMSP Φ c W k)) : PS X (.If e q r pos) (tMSP Φ c W (mIf t m k)) := ps_imp (ps_if h h1 h2) fun D σ H ⟨w, σa, st, ph, rl, p⟩ =>
  ⟨w, σa, st, ph, rl, PostO.lift p fun b b' _ _ _ e1 rl1 r p1 => by
    subst r
    cases b with
    | true => exact iteT ⟨_, _, _, L _ _ _ _ _ e1 ph, rl1, p1⟩
    | false => exact iteF ⟨_, _, _, L _ _ _ _ _ e1 ph, rl1, p1⟩⟩
theorem p_aug {j : Nat} {x : Str} {op : Operator} {r : R2} {gg : A → A → Store → Res A} {pos' : Pos} (hN : X.N.Nodup) (hi : X.N[j]? = some x) (hx : Loc X.env.scope x) (h : PE X e (tMP Φ c W f)) (ho : PIp X op r) (hg : OpA c r gg) (hf : X.fn x = true ∨ X.env.scope.names.lookup x = some .local := by first | exact .inl rfl | exact .inr rfl | assumption) :
    PS X (.AugAssign (.Name x pos') op e pos) (tMSP Φ c W (mAug j gg f)) := ps_imp (ps_aug hN hi hx h ho hf) fun D σ H ⟨w, σa, st, ph, rl, p⟩ => by
  unfold mAug at p
  split at p
  · rename_i a hj
    obtain ⟨v, e1, ra⟩ := rl.sl j a hj
    refine ⟨v, e1, w, σa, st, ph, rl, PostO.lift p fun u y st1 w1 H1 e1 rl1 ry p1 => ?_⟩
    exact hg w1 σa st1 σ H1 a y v u W _ rl1 (ra.ext e1) ry (PostO.lift p1 fun z z' st2 w2 H2 _ rl2 rz p2 => p2.nxt (rl2.set rz))
  · exact p.elim
theorem pss_one {s : Stmt} (h : PS X s (tMSP Φ c W m)) : PSs X [s] (tMSP Φ c W m) := L2.pss_one h
end
/-! the suite -/
def PhiE (c : Ctx) (j : Nat) (a : Addr) (cls : Value) (d : Option Addr) (x : Exn) : L2.St → Wd → Prop := fun σ w => σ[j]? = some (some (.ref a)) ∧ RX c w x cls d
theorem RX.ext {c : Ctx} {w w' : Wd} {n n' : Nat} {x : Exn} {cls : Value} {d : Option Addr} (e : Ext w n w' n') (h : RX c w x cls d) : RX c w' x cls d := by
  obtain ⟨C, e1, e2, h⟩ := h
  refine ⟨C, e1, e2, ?_⟩
  cases hf : x.fs with
  | none => rw [hf] at h; exact h
  | some fs =>
    rw [hf] at h
    obtain ⟨a, us, h1, h2, h3⟩ := h
    exact ⟨a, us, h1, e.same _ _ h2, DRf.same e.same h3⟩
theorem phi_lasts {c : Ctx} {j : Nat} {a : Addr} {cls : Value} {d : Option Addr} {x : Exn} : Lasts (PhiE c j a cls d x) := fun _ _ _ _ _ e h => ⟨h.1, h.2.ext e⟩
theorem Rel.forget {c : Ctx} {w : Wd} {σa : Slots} {st : Store} {σ : L2.St} {H : Hp} (r : Rel c w σa st σ H) (j : Nat) (v : Option V) : Rel c w (σa.set j none) st (σ.set j v) H :=
  ⟨r.rs, by rw [List.length_set, List.length_set]; exact r.len, fun i b hb => by
    by_cases e : i = j
    · subst e
      by_cases hl : i < σa.length
      · rw [List.getElem?_set_self hl] at hb; cases hb
      · rw [List.getElem?_eq_none (by rw [List.length_set]; omega)] at hb; cases hb
    · rw [List.getElem?_set_ne (Ne.symm e)] at hb
      obtain ⟨u, e1, q⟩ := r.sl i b hb
      exact ⟨u, by rw [List.getElem?_set_ne (Ne.symm e)]; exact e1, q⟩⟩
/-- the name goes at the suite's end -/
def unAs (j : Nat) : Out → Out
  | .nx σ st => .nx (σ.set j none) st
  | .bk σ st => .bk (σ.set j none) st
  | .ct σ st => .ct (σ.set j none) st
  | .rt a st => .rt a st
  | _ => .no
noncomputable def mTryAs (isE : Str → Str → Option Bool) (y : Str) (j : Nat) (b : MS) (s : Exn → MS) : MS := fun σ st => match b σ st with
  | .ex x σ1 st1 => match isE x.cls y with
    | some true => needO (j < σ1.length) (unAs j (s x (σ1.set j none) st1))
    | some false => .ex x σ1 st1
    | none => .no
  | o => o
theorem PostO.unAs {c : Ctx} {W : WX} {w : Wd} {n j : Nat} {D : Ends} : ∀ {o : Out}, PostO c w n W D (Am.unAs j o) →
    PostO c w n (fun _ _ _ _ => False) { nx := fun σ' H' => D.nx (σ'.set j none) H', rt := D.rt, bk := fun σ' H' => D.bk (σ'.set j none) H', ct := fun σ' H' => D.ct (σ'.set j none) H' } o
  | .nx _ _, h => fun σ w1 H1 e r => h _ w1 H1 e (r.forget j none)
  | .bk _ _, h => fun σ w1 H1 e r => h _ w1 H1 e (r.forget j none)
  | .ct _ _, h => fun σ w1 H1 e r => h _ w1 H1 e (r.forget j none)
  | .rt _ _, h => h
  | .ex _ _ _, h => h.elim
  | .no, h => h
theorem pss_ex {X : Cx} {ι : Type} {ss : List Stmt} {t : ι → TS} (h : ∀ i, PSs X ss (t i)) : PSs X ss (fun D σ H => ∃ i, t i D σ H) := ⟨fun pins s σ H D I ⟨i, q⟩ => (h i).run pins s σ H D I q⟩
section
variable {X : Cx} {c : Ctx} {W : WX}
theorem s_tryAs {isE : Str → Str → Option Bool} {y n : Str} {j : Nat} {body suite : List Stmt} {b₀ : Stmt} {np pos pos' : Pos} {b : MS} {s : Exn → MS} (T : ExmT c isE) (hx : ExcT X.K X.mg y) (tk : Takes X W) (hN : X.N.Nodup) (hi : X.N[j]? = some n) (hln : X.env.kindOf n = some .local)
    (hb : ∀ (W : WX) (pn : List (Addr × Obj)) (xe : Value → Shared → Prop), Takes (X.tr pn xe) W → PassesOwn (model X.prog X.w) X.A X.env xe → PSs (X.tr pn xe) body (tMS c W b))
    (hsu : ∀ (a : Addr) (oe : Obj) (cls : Value) (d : Option Addr) (pn : List (Addr × Obj)) (x : Exn), Zc cls d oe → (∃ vs, oe.data = .fields vs) → PSs (X.suite a ((a, oe) :: pn)) (b₀ :: suite) (tMSP (PhiE c j a cls d x) c (fun _ _ _ _ => False) (s x))) (F : Fits X c := by exact ⟨rfl, rfl⟩)
    (hs : X.stack = X.env :: X.outer := by rfl) (hf : X.env.frame = some X.env.locals := by rfl) (hg : Gl X y := by rfl) (nd : (y == ("__debug__" : Str)) = false := by decide) :
    PS X (.Try body [.ExceptHandler (some (.Name y np)) (some n) (b₀ :: suite) pos'] [] [] pos) (tMS c W (mTryAs isE y j b s)) := by
  obtain ⟨Dy, _, _, _, _, _, _, hY, _⟩ := hx
  refine ps_imp (ps_try_as (Wout := W) hs hf hN hi hln ⟨hg, nd, .inl hY⟩ tk hb (fun a oe cls d pn z q => pss_ex fun x => hsu a oe cls d pn x z q)) fun D σ H ⟨w, σa, st, rl, q⟩ => ?_
  refine ⟨w, σa, st, rl, ?_⟩
  unfold mTryAs at q
  cases ho : b σa st with
  | ex x σ1 st1 =>
    rw [ho] at q
    have q : PostO c w st.length W D (match isE x.cls y with | some true => needO (j < σ1.length) (unAs j (s x (σ1.set j none) st1)) | some false => .ex x σ1 st1 | none => .no) := q
    intro σ2 cls d w2 H2 e r rx
    obtain ⟨C, rfl, mC, rd⟩ := id rx
    cases hi : isE x.cls y with
    | none => rw [hi] at q; exact q.elim
    | some bb =>
      rw [hi] at q
      have t := T x.cls y bb C Dy hi mC (F.mg ▸ hY)
      refine ⟨bb, by rw [F.K]; exact t, fun hb a _ => ?_, fun hb => ?_⟩
      · subst hb
        obtain ⟨hj, q⟩ := PostO.need q
        have hlen : j < σ2.length := by rw [r.len]; exact hj
        refine ⟨x, w2, σ1.set j none, st1, ⟨List.getElem?_set_self hlen, rx⟩, r.forget j _, ?_⟩
        exact PostO.unAs (PostO.mono e q)
      · subst hb
        exact q σ2 (.ref C) d w2 H2 e r rx
  | nx _ _ => rw [ho] at q; exact q
  | rt _ _ => rw [ho] at q; exact q
  | bk _ _ => rw [ho] at q; exact q
  | ct _ _ => rw [ho] at q; exact q
  | no => rw [ho] at q; exact q
end
/-! isinstance of the caught error -/
def IsxT (c : Ctx) (isK : Str → Str → Option Bool) : Prop := ∀ (x y : Str) (b : Bool) (D : Addr), isK x y = some b → c.mg x = some (.ref D) →
  ExcC c.K D ∧ ((∃ C, c.mg y = some (.ref C) ∧ PySem.W.kitOne c.K (.ref D) (.ref C) = some b) ∨ (c.mg y = none ∧ ∃ t, bootBuiltins y = some (.type t) ∧ PySem.W.kitOne c.K (.ref D) (.type t) = some b))
def mIsX (isK : Str → Str → Option Bool) (x : Exn) (y : Str) : ME := fun _ st => match x.fs, isK x.cls y with
  | none, some b => .ok (.d (.bl b)) st
  | _, _ => .no
section
variable {X : Cx} {c : Ctx} {W : WX} {isK : Str → Str → Option Bool} {a : Addr} {oe : Obj} {cls : Value} {d : Option Addr} {pn : List (Addr × Obj)} {x : Exn} {j : Nat} {n y : Str} {p np p2 pos : Pos}
theorem p_isx {v : V} (T : IsxT c isK) (hz : Zc cls d oe) (hfd : ∃ vs, oe.data = .fields vs) (hm : c.mg "isinstance" = none) (hy : PE (X.suite a ((a, oe) :: pn)) (.Name y p2) (tC v)) (hv : (∃ C, c.mg y = some (.ref C) ∧ v = .ref C) ∨ (c.mg y = none ∧ ∃ t, bootBuiltins y = some (.type t) ∧ v = .ty t)) (hN : X.N[j]? = some n := by rfl) (F : Fits X c := by exact ⟨rfl, rfl⟩) (hvis : Vis X.env.scope n := by first | exact Or.inl rfl | exact Or.inr (Or.inl rfl) | exact Or.inr (Or.inr rfl)) (hd : (n == ("__debug__" : Str)) = false := by decide)
    (hcd : (n == ("__classdict__" : Str)) = false := by decide) (hgl : Gl X "isinstance" := by rfl)
    (he : starEach [.Name n np, .Name y p2] (X.suite a ((a, oe) :: pn)).env = (false, eval (.Name n np) (X.suite a ((a, oe) :: pn)).env) :: starEach [.Name y p2] (X.suite a ((a, oe) :: pn)).env := by rfl) (hpl : (backTo pos (starEach [.Name y p2] (X.suite a ((a, oe) :: pn)).env)).any (·.1) = false := by rfl) :
    PE (X.suite a ((a, oe) :: pn)) (.Call (.Name "isinstance" p) [.Name n np, .Name y p2] [] pos) (tMP (PhiE c j a cls d x) c W (mIsX isK x y)) := by
  refine ⟨fun pins s σ H Q I q => ?_⟩
  obtain ⟨w, σa, st, ⟨hσ, rx⟩, rl, q⟩ := q
  obtain ⟨D, rfl, mD, rd⟩ := rx
  unfold mIsX at q
  split at q
  · rename_i b hfs hb
    rw [hfs] at rd
    have rd : d = none := rd
    subst rd
    obtain ⟨EC, k⟩ := T x.cls y b D hb mD
    rw [← F.K] at EC
    refine (pe_callB (X := X.suite a ((a, oe) :: pn)) (call_isE EC hz hfd) hgl (F.mg ▸ hm) boot_isinstance (pa_cons (pe_var (i := j) hN hvis hd hcd) (pa_cons hy pa_nil) (hs := he)) (by decide) (by decide) he hpl).run pins s σ H Q I ?_
    rcases hv with ⟨C, mC, rfl⟩ | ⟨mn, t, ht, rfl⟩
    · have kk : PySem.W.kitOne c.K (.ref D) (.ref C) = some b := by
        rcases k with ⟨C', m', h⟩ | ⟨m', _⟩
        · rw [mC] at m'; cases m'; exact h
        · rw [mC] at m'; cases m'
      rw [← F.K] at kk
      exact ⟨_, hσ, .ref C, .ref C, b, rfl, fun u r => r, kk, q.here rl rfl⟩
    · have kk : PySem.W.kitOne c.K (.ref D) (.type t) = some b := by
        rcases k with ⟨C', m', h⟩ | ⟨m', t', ht', h⟩
        · rw [mn] at m'; cases m'
        · rw [ht] at ht'; cases ht'; exact h
      rw [← F.K] at kk
      exact ⟨_, hσ, .ty t, .type t, b, rfl, fun u r => r, kk, q.here rl rfl⟩
  · exact q.elim
theorem p_isxO (T : IsxT c isK) (hz : Zc cls d oe) (hfd : ∃ vs, oe.data = .fields vs) (hm : c.mg "isinstance" = none) (hx : ExcT X.K X.mg y) (hN : X.N[j]? = some n := by rfl) (F : Fits X c := by exact ⟨rfl, rfl⟩) (hvis : Vis X.env.scope n := by first | exact Or.inl rfl | exact Or.inr (Or.inl rfl) | exact Or.inr (Or.inr rfl)) (hd : (n == ("__debug__" : Str)) = false := by decide)
    (hcd : (n == ("__classdict__" : Str)) = false := by decide) (hgl : Gl X "isinstance" := by rfl) (hgy : Gl X y := by rfl) (ndy : (y == ("__debug__" : Str)) = false := by decide)
    (he : starEach [.Name n np, .Name y p2] (X.suite a ((a, oe) :: pn)).env = (false, eval (.Name n np) (X.suite a ((a, oe) :: pn)).env) :: starEach [.Name y p2] (X.suite a ((a, oe) :: pn)).env := by rfl) (hpl : (backTo pos (starEach [.Name y p2] (X.suite a ((a, oe) :: pn)).env)).any (·.1) = false := by rfl) :
    PE (X.suite a ((a, oe) :: pn)) (.Call (.Name "isinstance" p) [.Name n np, .Name y p2] [] pos) (tMP (PhiE c j a cls d x) c W (mIsX isK x y)) := by
  obtain ⟨C, _, _, _, _, _, _, g, _⟩ := hx
  exact p_isx (v := .ref C) T hz hfd hm (Rw.pe_globE hgy ⟨_, g, rfl⟩ ndy) (.inl ⟨C, F.mg ▸ g, rfl⟩) hN F hvis hd hcd hgl he hpl
theorem p_isxB {t : String} (T : IsxT c isK) (hz : Zc cls d oe) (hfd : ∃ vs, oe.data = .fields vs) (hm : c.mg "isinstance" = none) (hn : c.mg y = none) (hv : bootBuiltins y = some (.type t)) (hN : X.N[j]? = some n := by rfl) (F : Fits X c := by exact ⟨rfl, rfl⟩) (hvis : Vis X.env.scope n := by first | exact Or.inl rfl | exact Or.inr (Or.inl rfl) | exact Or.inr (Or.inr rfl)) (hd : (n == ("__debug__" : Str)) = false := by decide)
    (hcd : (n == ("__classdict__" : Str)) = false := by decide) (hgl : Gl X "isinstance" := by rfl) (hgy : Gl X y := by rfl) (nm : y ≠ "__name__" := by decide) (ndy : (y == ("__debug__" : Str)) = false := by decide)
    (he : starEach [.Name n np, .Name y p2] (X.suite a ((a, oe) :: pn)).env = (false, eval (.Name n np) (X.suite a ((a, oe) :: pn)).env) :: starEach [.Name y p2] (X.suite a ((a, oe) :: pn)).env := by rfl) (hpl : (backTo pos (starEach [.Name y p2] (X.suite a ((a, oe) :: pn)).env)).any (·.1) = false := by rfl) :
    PE (X.suite a ((a, oe) :: pn)) (.Call (.Name "isinstance" p) [.Name n np, .Name y p2] [] pos) (tMP (PhiE c j a cls d x) c W (mIsX isK x y)) :=
  p_isx (v := .ty t) T hz hfd hm (pe_bltn (v := .ty t) hgy (F.mg ▸ hn) hv rfl (hn := nm) (hd := ndy)) (.inr ⟨hn, t, hv, rfl⟩) hN F hvis hd hcd hgl he hpl
end
/-! the table of isinstance -/
section
variable {K : PySem.W.Frag} {mg : Str → Option Value}
theorem kit_true {t c : Value} (h : PySem.W.kitCls K t c = some true) : PySem.W.kitOne K t c = some true := by
  unfold PySem.W.kitOne
  split
  · rfl
  · exact h
theorem kit_self {t : Value} : PySem.W.kitOne K t t = some true := by
  unfold PySem.W.kitOne
  rw [if_pos (beq_self_eq_true t)]
theorem kit_own {D C : Addr} (h2 : PySem.W.isClsIn K C = true) (h3 : PySem.W.typeIn K (.ref C) = some (.type "type")) (h4 : PySem.W.subIn K (.ref D) (.ref C) = some true) : PySem.W.kitOne K (.ref D) (.ref C) = some true := kit_true (by
  have h2' : (PySem.W.clsIn K C).isSome = true := h2
  have e2 : ((PySem.W.clsIn K C).isSome && PySem.W.typeIn K (.ref C) == some (.type "type")) = true := by rw [h2', h3] <;> rfl
  show (if ((PySem.W.clsIn K C).isSome && PySem.W.typeIn K (.ref C) == some (.type "type")) = true then PySem.W.subIn K (.ref D) (.ref C) else none) = some true
  rw [if_pos e2, h4])
theorem kit_bi {D : Addr} {t : String} (hm : PySem.W.kitMeta t = true) (h4 : PySem.W.subIn K (.ref D) (.type t) = some true) : PySem.W.kitOne K (.ref D) (.type t) = some true := kit_true (by
  show (if PySem.W.kitMeta t = true then PySem.W.subIn K (.ref D) (.type t) else none) = some true
  rw [if_pos hm, h4])
def IsxP (K : PySem.W.Frag) (mg : Str → Option Value) (p : (Str × Str) × Bool) : Prop := ∀ D, mg p.1.1 = some (.ref D) → ExcC K D ∧ ((∃ C, mg p.1.2 = some (.ref C) ∧ PySem.W.kitOne K (.ref D) (.ref C) = some p.2) ∨ (mg p.1.2 = none ∧ ∃ t, bootBuiltins p.1.2 = some (.type t) ∧ PySem.W.kitOne K (.ref D) (.type t) = some p.2))
theorem isx_mk (tab : List ((Str × Str) × Bool)) (h : ∀ p ∈ tab, IsxP K mg p) : IsxT ⟨K, mg⟩ (fun x y => tab.lookup (x, y)) := fun x y b D hb hD => by
  have hm : ((x, y), b) ∈ tab := by
    clear h
    induction tab with
    | nil => cases hb
    | cons p tab ih =>
      obtain ⟨k, v⟩ := p
      simp only [List.lookup] at hb
      cases hk : (x, y) == k with
      | true =>
        rw [hk] at hb
        cases hb
        rw [eq_of_beq hk]
        exact List.mem_cons_self
      | false => rw [hk] at hb; exact List.mem_cons_of_mem _ (ih hb)
  exact h _ hm D hD
theorem isx_nil : ∀ p ∈ ([] : List ((Str × Str) × Bool)), IsxP K mg p := fun _ h => by cases h
theorem isx_own {x y : Str} {D C : Addr} {tab : List ((Str × Str) × Bool)} (hx : mg x = some (.ref D)) (e : ExcC K D) (hy : mg y = some (.ref C)) (k : PySem.W.kitOne K (.ref D) (.ref C) = some true) (h : ∀ p ∈ tab, IsxP K mg p) : ∀ p ∈ ((x, y), true) :: tab, IsxP K mg p := fun p hp => by
  rcases List.mem_cons.mp hp with rfl | hp
  · intro D' hD
    rw [hx] at hD
    cases hD
    exact ⟨e, .inl ⟨C, hy, k⟩⟩
  · exact h p hp
theorem isx_bi {x y : Str} {D : Addr} {t : String} {tab : List ((Str × Str) × Bool)} (hx : mg x = some (.ref D)) (e : ExcC K D) (hy : mg y = none) (hb : bootBuiltins y = some (.type t)) (k : PySem.W.kitOne K (.ref D) (.type t) = some true) (h : ∀ p ∈ tab, IsxP K mg p) : ∀ p ∈ ((x, y), true) :: tab, IsxP K mg p := fun p hp => by
  rcases List.mem_cons.mp hp with rfl | hp
  · intro D' hD
    rw [hx] at hD
    cases hD
    exact ⟨e, .inr ⟨hy, t, hb, k⟩⟩
  · exact h p hp
theorem boot_ValueError : bootBuiltins ("ValueError" : Str) = some (.type "ValueError") := by decide +kernel
end
end Am
/-! ### Am: defs whose exceptions have no context: calls, exits, raise, try -/
namespace Am
open PySem PySem.Spec PyProof.Rows L2
section
variable {X : Cx} {c : Ctx} {W : WX} {e o : Expr} {es : List Expr} {fo : ME} {fs : MA} {f : MF} {k : Nat} {ps : List Str} {x m : Str} {p pos apos : Pos}
theorem passN (tk : L2N.Takes X W) (σ : L2.St) : PassesAt (L2N.CX X.prog X.w) X σ (fun cls d H => W cls d σ H) := L2N.passAt tk σ
theorem e_callN (h : Rw.Has X.prog X.w X.K X.mg X.base (L2N.CX X.prog X.w) k x ps (spM c f)) (hr : Room k X.A) (tk : L2N.Takes X W) (ha : PA X (e :: es) (tMA c W fs)) (hgl : Gl X x := by rfl) (hdb : (x == ("__debug__" : Str)) = false := by decide)
    (he : starEach (e :: es) X.env = (false, eval e X.env) :: starEach es X.env := by rfl) (hpl : (backTo pos (starEach es X.env)).any (·.1) = false := by rfl) : PE X (.Call (.Name x p) (e :: es) [] pos) (tM c W (mCall f fs)) := by
  obtain ⟨fa, fd, g, kp, b, _, F⟩ := h
  exact pe_imp (pe_callSD F hr hgl g kp b .nil (fun σ => passN tk σ) ha hdb he hpl) entail_call
theorem e_methN {pl : Sem Bool} (h : HasM X.prog X.w X.K X.mg X.base (L2N.CX X.prog X.w) k x m ps (spM c f)) (hr : Room k X.A) (tk : L2N.Takes X W) (ho : PE X o (tM c W fo)) (ha : PA X (e :: es) (tMA c W fs)) (F : Fits X c := by exact ⟨rfl, rfl⟩)
    (star : starEach (e :: es) X.env = (false, eval e X.env) :: starEach es X.env := by rfl) (back : (backTo pos (starEach es X.env)).any (·.1) = false := by rfl)
    (text : eval (.Call (.Attribute o m apos) (e :: es) [] pos) X.env = (do
      let y ← eval o X.env
      standAt apos.atName
      let (f, first) ← holding [y] (getMethod y m pl)
      callWith pos f first (backTo pos (starEach (e :: es) X.env)) (backToKw pos (keywordEach [] X.env))) := by rfl) : PE X (.Call (.Attribute o m apos) (e :: es) [] pos) (tM c W (mMeth x m f fo fs)) := by
  obtain ⟨C, g, fd, hx, cl, mt, bd, ok⟩ := h
  exact pe_imp (pe_methT (pl := pl) ho cl mt ok hr bd (fun σ => passN tk σ) ha star back text) (entail_meth (F.mg ▸ hx))
theorem e_meth0N {pl : Sem Bool} (h : HasM X.prog X.w X.K X.mg X.base (L2N.CX X.prog X.w) k x m ps (spM c f)) (hr : Room k X.A) (tk : L2N.Takes X W) (ho : PE X o (tM c W fo)) (F : Fits X c := by exact ⟨rfl, rfl⟩)
    (text : eval (.Call (.Attribute o m apos) [] [] pos) X.env = (do
      let y ← eval o X.env
      standAt apos.atName
      let (f, first) ← holding [y] (getMethod y m pl)
      callWith pos f first (backTo pos (starEach [] X.env)) (backToKw pos (keywordEach [] X.env))) := by rfl) : PE X (.Call (.Attribute o m apos) [] [] pos) (tM c W (mMeth x m f fo mNil)) := by
  obtain ⟨C, g, fd, hx, cl, mt, bd, ok⟩ := h
  exact pe_imp (pe_methT0 (pl := pl) ho cl mt ok hr bd (fun σ => passN tk σ) text) (entail_meth0 (F.mg ▸ hx))
theorem e_makeN (h : HasM X.prog X.w X.K X.mg X.base (L2N.CX X.prog X.w) k x "__init__" ps (spM c f)) (M : MkC X.K X.mg x) (hr : Room (k + 1) X.A) (tk : L2N.Takes X W) (ha : PA X (e :: es) (tMA c W fs)) (F : Fits X c := by exact ⟨rfl, rfl⟩) (hgl : Gl X x := by rfl) (nd : (x == ("__debug__" : Str)) = false := by decide)
    (star : starEach (e :: es) X.env = (false, eval e X.env) :: starEach es X.env := by rfl) (back : (backTo pos (starEach es X.env)).any (·.1) = false := by rfl) : PE X (.Call (.Name x p) (e :: es) [] pos) (tM c W (mMake x f fs)) := by
  obtain ⟨C, g, fd, hx, cl, mt, bd, ok⟩ := h
  obtain ⟨C', hx', mk, kp⟩ := M
  rw [hx] at hx'
  cases hx'
  exact pe_imp (pe_makeT ⟨mk, mt.at_, mt.fn, kp⟩ ok hr hgl hx bd (fun σ => passN tk σ) ha nd star back) (entail_make (F.mg ▸ hx))
theorem takes0N : L2N.Takes X (fun _ _ _ _ => False) := fun _ _ ⟨_, _, _, _, _, _, _, _, _, _, _, _, _, _, _, _, h⟩ => h.elim
end
section
variable {c : Ctx} {H : Hp} {vs : List V} {Q : VK} {E : XK}
/-- a def's promise, as its body's -/
theorem def_len {np nn ex : Nat} {m : MS} (h : spM c (mF np nn ex m) vs H Q E) : vs.length = np := by
  obtain ⟨w, st, as, rs, pr, h⟩ := h
  apply Classical.byContradiction
  intro z
  have h : EndR c w st.length Q E (if as.length = np then runDef ex nn m as st else .no) := h
  rw [if_neg (by rw [← pr.length]; exact z)] at h
  exact h
theorem def_post {np nn ex : Nat} {m : MS} {N : List Str} (hn : N.length = nn) (h : spM c (mF np nn ex m) vs H Q E) : tMS c (fun cls d _ H => E cls d H) m { nx := fun _ H' => Q .non H', rt := Q } (L2.start N vs) H := by
  subst hn
  obtain ⟨w, st, as, rs, pr, h⟩ := h
  have h : EndR c w st.length Q E (if as.length = np then runDef ex N.length m as st else .no) := h
  by_cases hl : as.length = np
  · rw [if_pos hl] at h
    have rl : Rel c w (as.map some ++ List.replicate (N.length - as.length) none) st (L2.start N vs) H := by
      refine ⟨rs, ?_, fun i a hi => ?_⟩
      · unfold L2.start
        rw [List.length_append, List.length_append, List.length_map, List.length_map, List.length_replicate, List.length_replicate, pr.length]
      · have hil : i < as.length := by
          apply Classical.byContradiction
          intro z
          rw [List.getElem?_append_right (by rw [List.length_map]; omega), List.getElem?_replicate] at hi
          split at hi <;> cases hi
        rw [List.getElem?_append_left (by rw [List.length_map]; exact hil), List.getElem?_map] at hi
        obtain ⟨b, h1, h2⟩ := Option.map_eq_some_iff.mp hi
        cases h2
        obtain ⟨v, hv, ra⟩ := paired_get pr h1
        refine ⟨v, ?_, ra⟩
        unfold L2.start
        rw [List.getElem?_append_left (by rw [List.length_map, pr.length]; exact hil), List.getElem?_map, hv]
        rfl
    refine ⟨w, _, st, rl, ?_⟩
    unfold runDef at h
    cases hm : m (as.map some ++ List.replicate (N.length - as.length) none) st with
    | nx σ1 st1 => rw [hm] at h; exact fun σ w1 H1 e r => exit_ok (a := .d .non) rs e r.rs rfl h
    | rt a st1 => rw [hm] at h; exact fun v w1 H1 e r ra => exit_ok rs e r ra h
    | ex y σ1 st1 =>
      rw [hm] at h
      obtain ⟨t, h⟩ := EndR.need h
      intro σ cls d w1 H1 e r rx
      by_cases hk : ex = 0
      · rw [if_pos hk] at h
        exact h cls d w1 H1 e r.rs rx
      · rw [if_neg hk] at h
        have t := t.resolve_left hk
        exact h cls d w1 H1 (e.cut t) (rs.trunc r.rs t) rx
    | bk _ _ => rw [hm] at h; exact h.elim
    | ct _ _ => rw [hm] at h; exact h.elim
    | no => rw [hm] at h; exact h
  · rw [if_neg hl] at h
    exact h.elim
end
section
variable {P : Program} {w : World} {K : PySem.W.Frag} {mg : Str → Option Value} {base : Heap} {k : Nat} {x m qual : Str} {st : Stmt} {ps N : List Str}
theorem def_fnN {f : Addr} {fd : FuncData} {b : MS} (np nn ex : Nat) (D : Fun K x qual st f fd) (S : FnScope N ps (defScope st)) (hp : ps.length = np) (hn : N.length = nn)
    (hbody : ∀ (cdv : Value) (A : Around) (outer : List Env) (s : Shared) (H : Hp) (E : XK), Room k (A.deeper (envOfC qual (defScope st) s.heap.objs.size f cdv)) →
      L2N.Takes (cxOf (L2N.CX P w) P w K mg base N qual (defScope st) f cdv A outer s H E) (fun cls d _ H => E cls d H) →
      PSs (cxOf (L2N.CX P w) P w K mg base N qual (defScope st) f cdv A outer s H E) (defBody st) (tMS ⟨K, mg⟩ (fun cls d _ H => E cls d H) b)) :
    FnOk P w K mg base (L2N.CX P w) (k + 1) f fd ps (spM ⟨K, mg⟩ (mF np nn ex b)) := by
  obtain ⟨o1, o2, k1, dc, pmv, ann, cdw, ctv, slw, rfl, look, code⟩ := D.ex
  exact fn_of look code S (fun _ _ _ _ hsp => (def_len hsp).trans hp.symm) fun A outer s H vs Q E room hsp => ⟨_, hbody cdw A outer s H E room (L2N.takes_of rfl rfl rfl rfl), def_post hn hsp⟩
theorem def_hasN {b : MS} (np nn ex : Nat) (D : Rw.Def K mg x qual st ps) (S : FnScope N ps (defScope st)) (hp : ps.length = np) (hn : N.length = nn)
    (hbody : ∀ (f : Addr) (cdv : Value) (A : Around) (outer : List Env) (s : Shared) (H : Hp) (E : XK), Room k (A.deeper (envOfC qual (defScope st) s.heap.objs.size f cdv)) →
      L2N.Takes (cxOf (L2N.CX P w) P w K mg base N qual (defScope st) f cdv A outer s H E) (fun cls d _ H => E cls d H) →
      PSs (cxOf (L2N.CX P w) P w K mg base N qual (defScope st) f cdv A outer s H E) (defBody st) (tMS ⟨K, mg⟩ (fun cls d _ H => E cls d H) b)) :
    Rw.Has P w K mg base (L2N.CX P w) (k + 1) x ps (spM ⟨K, mg⟩ (mF np nn ex b)) := by
  obtain ⟨f, fd, g, F, bd⟩ := D
  exact ⟨f, fd, g, F.kp, bd, Rw.fun_look F, def_fnN np nn ex F S hp hn (hbody f)⟩
theorem def_hasMN {b : MS} (np nn ex : Nat) (D : DefM K mg x m qual st ps) (S : FnScope N ps (defScope st)) (hp : ps.length = np) (hn : N.length = nn)
    (hbody : ∀ (f : Addr) (cdv : Value) (A : Around) (outer : List Env) (s : Shared) (H : Hp) (E : XK), Room k (A.deeper (envOfC qual (defScope st) s.heap.objs.size f cdv)) →
      L2N.Takes (cxOf (L2N.CX P w) P w K mg base N qual (defScope st) f cdv A outer s H E) (fun cls d _ H => E cls d H) →
      PSs (cxOf (L2N.CX P w) P w K mg base N qual (defScope st) f cdv A outer s H E) (defBody st) (tMS ⟨K, mg⟩ (fun cls d _ H => E cls d H) b)) :
    HasM P w K mg base (L2N.CX P w) (k + 1) x m ps (spM ⟨K, mg⟩ (mF np nn ex b)) := by
  obtain ⟨C, f, fd, g, cl, mt, F, bd⟩ := D
  exact ⟨C, f, fd, g, cl, mt, bd, def_fnN np nn ex F S hp hn (hbody f)⟩
end
/-! raise, try -/
section
variable {X : Cx} {c : Ctx} {W : WX}
theorem s_raiseN {x m : Str} {j : Nat} {p p2 pos pos' : Pos} (T : ExcT X.K X.mg x) (hc : X.calm = true) (tk : L2N.Takes X W) (F : Fits X c := by exact ⟨rfl, rfl⟩) (hg : Gl X x := by rfl) (nd : (x == ("__debug__" : Str)) = false := by decide) :
    PS X (.Raise (some (.Call (.Name x p) [.Constant (.str m) j p2] [] pos)) none pos') (tMS c W (mRaise x)) := by
  obtain ⟨C, bmB, B, n1, n2, f1, f2, g, kp, s1, s2⟩ := T
  exact ps_imp (L2N.ps_raise hc tk (L2N.pmk_own f1 f2 g kp (raises_own s1 s2) hg nd)) fun D σ H ⟨w, σa, st, rl, q⟩ => q σ (.ref C) none w H (Ext.refl _ _) rl ⟨C, rfl, F.mg ▸ g, rfl⟩
/-- the suite's context bears the exception that is handled -/
theorem hot_suite {a : Addr} {oe : Obj} {cls : Value} {d : Option Addr} {pn : List (Addr × Obj)} (z : L2N.Zn cls d oe) (q : ∃ vs, oe.data = .fields vs) : L2H.HotC (X.suite a ((a, oe) :: pn)) :=
  let ⟨vs, e⟩ := q
  ⟨(a, oe), ⟨rfl, vs, e, z.2.2 vs e⟩, List.mem_cons_self⟩
theorem s_tryN {isE : Str → Str → Option Bool} {y : Str} {body suite : List Stmt} {b₀ : Stmt} {np pos pos' : Pos} {b s : MS} (T : ExmT c isE) (hx : ExcT X.K X.mg y) (tk : L2N.Takes X W)
    (hb : ∀ (W : WX) (pn : List (Addr × Obj)) (xe : Value → Shared → Prop), L2N.Takes (X.tr pn xe) W → PassesOwn (model X.prog X.w) X.A X.env xe → PSs (X.tr pn xe) body (tMS c W b))
    (hsu : ∀ (a : Addr) (oe : Obj) (pn : List (Addr × Obj)), L2H.HotC (X.suite a ((a, oe) :: pn)) → PSs (X.suite a ((a, oe) :: pn)) (b₀ :: suite) (tMS c (fun _ _ _ _ => False) s)) (F : Fits X c := by exact ⟨rfl, rfl⟩)
    (hs : X.stack = X.env :: X.outer := by rfl) (hf : X.env.frame = some X.env.locals := by rfl) (hg : Gl X y := by rfl) (nd : (y == ("__debug__" : Str)) = false := by decide) :
    PS X (.Try body [.ExceptHandler (some (.Name y np)) none (b₀ :: suite) pos'] [] [] pos) (tMS c W (mTry isE y b s)) := by
  obtain ⟨Dy, _, _, _, _, _, _, hY, _⟩ := hx
  refine ps_imp (L2N.ps_try_many (Wout := W) hs hf tk hb (.cons (ts := fun _ _ _ => tMS c (fun _ _ _ _ => False) s) ⟨hg, nd, .inl hY⟩ (fun a oe cls d pn z q => hsu a oe pn (hot_suite z q)) .nil)) fun D σ H ⟨w, σa, st, rl, q⟩ => ?_
  refine ⟨w, σa, st, rl, ?_⟩
  unfold mTry at q
  cases ho : b σa st with
  | ex x σ1 st1 =>
    rw [ho] at q
    have q : PostO c w st.length W D (match isE x.cls y with | some true => noExO (s σ1 st1) | some false => .ex x σ1 st1 | none => .no) := q
    intro σ2 cls d w2 H2 e r rx
    obtain ⟨C, rfl, mC, rd⟩ := rx
    cases hi : isE x.cls y with
    | none => rw [hi] at q; exact q.elim
    | some bb =>
      rw [hi] at q
      have t := T x.cls y bb C Dy hi mC (F.mg ▸ hY)
      refine ⟨bb, by rw [F.K]; exact t, fun hb a _ => ?_, fun hb => ?_⟩
      · subst hb
        exact ⟨w2, σ1, st1, r, PostO.noEx (PostO.mono e q)⟩
      · subst hb
        exact q σ2 (.ref C) d w2 H2 e r ⟨C, rfl, mC, rd⟩
  | nx _ _ => rw [ho] at q; exact q
  | rt _ _ => rw [ho] at q; exact q
  | bk _ _ => rw [ho] at q; exact q
  | ct _ _ => rw [ho] at q; exact q
  | no => rw [ho] at q; exact q
/-- what a try..except X as n asks -/
theorem entail_tryAs {isE : Str → Str → Option Bool} {y : Str} {j : Nat} {b : MS} {s : Exn → MS} {Dy : Addr} (T : ExmT c isE) (hY : c.mg y = some (.ref Dy)) (D : Ends) (σ : L2.St) (H : Hp) (h : tMS c W (mTryAs isE y j b s) D σ H) :
    tMS c (wAs c.K (.ref Dy) j (fun a cls d => fun D σ H => ∃ x, tMSP (PhiE c j a cls d x) c (fun _ _ _ _ => False) (s x) D σ H) W D) b D σ H := by
  obtain ⟨w, σa, st, rl, q⟩ := h
  refine ⟨w, σa, st, rl, ?_⟩
  unfold mTryAs at q
  cases ho : b σa st with
  | ex x σ1 st1 =>
    rw [ho] at q
    have q : PostO c w st.length W D (match isE x.cls y with | some true => needO (j < σ1.length) (unAs j (s x (σ1.set j none) st1)) | some false => .ex x σ1 st1 | none => .no) := q
    intro σ2 cls d w2 H2 e r rx
    obtain ⟨C, rfl, mC, rd⟩ := id rx
    cases hi : isE x.cls y with
    | none => rw [hi] at q; exact q.elim
    | some bb =>
      rw [hi] at q
      have t := T x.cls y bb C Dy hi mC hY
      refine ⟨bb, t, fun hb a _ => ?_, fun hb => ?_⟩
      · subst hb
        obtain ⟨hj, q⟩ := PostO.need q
        have hlen : j < σ2.length := by rw [r.len]; exact hj
        refine ⟨x, w2, σ1.set j none, st1, ⟨List.getElem?_set_self hlen, rx⟩, r.forget j _, ?_⟩
        exact PostO.unAs (PostO.mono e q)
      · subst hb
        exact q σ2 (.ref C) d w2 H2 e r rx
  | nx _ _ => rw [ho] at q; exact q
  | rt _ _ => rw [ho] at q; exact q
  | bk _ _ => rw [ho] at q; exact q
  | ct _ _ => rw [ho] at q; exact q
  | no => rw [ho] at q; exact q
theorem s_tryAsN {isE : Str → Str → Option Bool} {y n : Str} {j : Nat} {body suite : List Stmt} {b₀ : Stmt} {np pos pos' : Pos} {b : MS} {s : Exn → MS} (T : ExmT c isE) (hx : ExcT X.K X.mg y) (tk : L2N.Takes X W) (hN : X.N.Nodup) (hi : X.N[j]? = some n) (hln : X.env.kindOf n = some .local)
    (hb : ∀ (W : WX) (pn : List (Addr × Obj)) (xe : Value → Shared → Prop), L2N.Takes (X.tr pn xe) W → PassesOwn (model X.prog X.w) X.A X.env xe → PSs (X.tr pn xe) body (tMS c W b))
    (hsu : ∀ (a : Addr) (oe : Obj) (cls : Value) (d : Option Addr) (pn : List (Addr × Obj)) (x : Exn), Zc cls d oe → (∃ vs, oe.data = .fields vs) → PSs (X.suite a ((a, oe) :: pn)) (b₀ :: suite) (tMSP (PhiE c j a cls d x) c (fun _ _ _ _ => False) (s x))) (F : Fits X c := by exact ⟨rfl, rfl⟩)
    (hs : X.stack = X.env :: X.outer := by rfl) (hf : X.env.frame = some X.env.locals := by rfl) (hg : Gl X y := by rfl) (nd : (y == ("__debug__" : Str)) = false := by decide) :
    PS X (.Try body [.ExceptHandler (some (.Name y np)) (some n) (b₀ :: suite) pos'] [] [] pos) (tMS c W (mTryAs isE y j b s)) := by
  obtain ⟨Dy, _, _, _, _, _, _, hY, _⟩ := hx
  exact ps_imp (L2N.ps_try_as (Wout := W) hs hf hN hi hln ⟨hg, nd, .inl hY⟩ tk hb (fun a oe cls d pn z q => pss_ex fun x => hsu a oe cls d pn x z.zc q)) fun D σ H h => by
    have r := entail_tryAs T (F.mg ▸ hY) D σ H h
    rw [F.K]
    exact r
end
end Am
/-! ### Am: within an except suite: defs called there, their loops, comprehensions, raise, try -/
namespace Am
open PySem PySem.Spec PyProof.Rows L2
/-- the def x keeps sp where an exception is handled -/
def HasH (P : Program) (w : World) (K : PySem.W.Frag) (mg : Str → Option Value) (base : Heap) (CX : CXT) (k : Nat) (x : Str) (ps : List Str) (sp : Sp) : Prop :=
  ∃ (f : Addr) (fd : FuncData), mg x = some (.ref f) ∧ PySem.W.keepIn K (.ref f) = true ∧ Binds K fd ps [] ∧ L2H.FnH P w K mg base CX k f fd ps sp
def HasMH (P : Program) (w : World) (K : PySem.W.Frag) (mg : Str → Option Value) (base : Heap) (CX : CXT) (k : Nat) (x m : Str) (ps : List Str) (sp : Sp) : Prop :=
  ∃ (C f : Addr) (fd : FuncData), mg x = some (.ref C) ∧ Cls K C ∧ Meth K C m f ∧ Binds K fd ps [] ∧ L2H.FnH P w K mg base CX k f fd ps sp
section
variable {P : Program} {w : World} {K : PySem.W.Frag} {mg : Str → Option Value} {base : Heap} {k : Nat} {x m qual : Str} {st : Stmt} {ps N : List Str} {CX : CXT} {sp : Sp}
theorem fnH_mono {f : Addr} {fd : FuncData} {j : Nat} (h : L2H.FnH P w K mg base CX j f fd ps sp) (l : j ≤ k) : L2H.FnH P w K mg base CX k f fd ps sp :=
  ⟨h.len, fun A outer s H args us vs Q E p room => h.run A outer s H args us vs Q E p (room.mono l)⟩
theorem HasH.mono {j : Nat} (h : HasH P w K mg base CX j x ps sp) (l : j ≤ k) : HasH P w K mg base CX k x ps sp :=
  let ⟨f, fd, g, kp, bd, F⟩ := h
  ⟨f, fd, g, kp, bd, fnH_mono F l⟩
theorem HasMH.mono {j : Nat} (h : HasMH P w K mg base CX j x m ps sp) (l : j ≤ k) : HasMH P w K mg base CX k x m ps sp :=
  let ⟨C, f, fd, g, cl, mt, bd, F⟩ := h
  ⟨C, f, fd, g, cl, mt, bd, fnH_mono F l⟩
theorem def_fnH {f : Addr} {fd : FuncData} {b : MS} (np nn ex : Nat) (D : Fun K x qual st f fd) (S : FnScope N ps (defScope st)) (hp : ps.length = np) (hn : N.length = nn)
    (hbody : ∀ (cdv : Value) (A : Around) (outer : List Env) (s : Shared) (H : Hp) (E : XK) (q : Addr × Obj), L2H.RoomH k (A.deeper (envOfC qual (defScope st) s.heap.objs.size f cdv)) →
      Takes (L2H.cxH (L2.CX P w) P w K mg base N qual (defScope st) f cdv A outer s H E q) (fun cls d _ H => E cls d H) → L2H.HotC (L2H.cxH (L2.CX P w) P w K mg base N qual (defScope st) f cdv A outer s H E q) →
      PSs (L2H.cxH (L2.CX P w) P w K mg base N qual (defScope st) f cdv A outer s H E q) (defBody st) (tMS ⟨K, mg⟩ (fun cls d _ H => E cls d H) b)) :
    L2H.FnH P w K mg base (L2.CX P w) (k + 1) f fd ps (spM ⟨K, mg⟩ (mF np nn ex b)) := by
  obtain ⟨o1, o2, k1, dc, pmv, ann, cdw, ctv, slw, rfl, look, code⟩ := D.ex
  exact L2H.fn_ofH look code S (fun _ _ _ _ hsp => (def_len hsp).trans hp.symm) fun A outer s H vs Q E q hot room hsp =>
    ⟨_, hbody cdw A outer s H E q room (takes_of rfl rfl rfl rfl) ⟨q, hot, List.mem_cons_self⟩, def_post hn hsp⟩
theorem def_hasH {b : MS} (np nn ex : Nat) (D : Rw.Def K mg x qual st ps) (S : FnScope N ps (defScope st)) (hp : ps.length = np) (hn : N.length = nn)
    (hbody : ∀ (f : Addr) (cdv : Value) (A : Around) (outer : List Env) (s : Shared) (H : Hp) (E : XK) (q : Addr × Obj), L2H.RoomH k (A.deeper (envOfC qual (defScope st) s.heap.objs.size f cdv)) →
      Takes (L2H.cxH (L2.CX P w) P w K mg base N qual (defScope st) f cdv A outer s H E q) (fun cls d _ H => E cls d H) → L2H.HotC (L2H.cxH (L2.CX P w) P w K mg base N qual (defScope st) f cdv A outer s H E q) →
      PSs (L2H.cxH (L2.CX P w) P w K mg base N qual (defScope st) f cdv A outer s H E q) (defBody st) (tMS ⟨K, mg⟩ (fun cls d _ H => E cls d H) b)) :
    HasH P w K mg base (L2.CX P w) (k + 1) x ps (spM ⟨K, mg⟩ (mF np nn ex b)) := by
  obtain ⟨f, fd, g, F, bd⟩ := D
  exact ⟨f, fd, g, F.kp, bd, def_fnH np nn ex F S hp hn (hbody f)⟩
theorem def_hasMH {b : MS} (np nn ex : Nat) (D : DefM K mg x m qual st ps) (S : FnScope N ps (defScope st)) (hp : ps.length = np) (hn : N.length = nn)
    (hbody : ∀ (f : Addr) (cdv : Value) (A : Around) (outer : List Env) (s : Shared) (H : Hp) (E : XK) (q : Addr × Obj), L2H.RoomH k (A.deeper (envOfC qual (defScope st) s.heap.objs.size f cdv)) →
      Takes (L2H.cxH (L2.CX P w) P w K mg base N qual (defScope st) f cdv A outer s H E q) (fun cls d _ H => E cls d H) → L2H.HotC (L2H.cxH (L2.CX P w) P w K mg base N qual (defScope st) f cdv A outer s H E q) →
      PSs (L2H.cxH (L2.CX P w) P w K mg base N qual (defScope st) f cdv A outer s H E q) (defBody st) (tMS ⟨K, mg⟩ (fun cls d _ H => E cls d H) b)) :
    HasMH P w K mg base (L2.CX P w) (k + 1) x m ps (spM ⟨K, mg⟩ (mF np nn ex b)) := by
  obtain ⟨C, f, fd, g, cl, mt, F, bd⟩ := D
  exact ⟨C, f, fd, g, cl, mt, bd, def_fnH np nn ex F S hp hn (hbody f)⟩
end
section
variable {X : Cx} {c : Ctx} {W : WX} {e o : Expr} {es : List Expr} {fo : ME} {fs : MA} {f : MF} {k : Nat} {ps : List Str} {x m : Str} {p pos apos : Pos}
theorem room_suite {a : Addr} {pn : List (Addr × Obj)} (r : Room k X.A) : L2H.RoomH k (X.suite a pn).A := ⟨r.dp, r.un⟩
theorem entail_callS (σ : L2.St) (H : Hp) (Q : VK) : tM c W (mCall f fs) σ H Q → tCallS (spM c f) (fun σ cls d H => W cls d σ H) (tMA c W fs) σ H Q := fun ⟨w, σa, st, rl, q⟩ =>
  ⟨w, σa, st, rl, q.bind fun vs xs st1 w1 H1 _ rl1 rx p1 => ⟨w1, st1, xs, rl1.rs, rx, by
    cases hf : f xs st1 with
    | ok a st2 => rw [hf] at p1; exact fun v w2 H2 e2 rs ra => p1 v w2 H2 e2 (rl1.of e2 rs) ra
    | ex y st2 => rw [hf] at p1; exact fun cls d w2 H2 e2 rs rx => p1 cls d w2 H2 e2 (rl1.of e2 rs) rx
    | no => rw [hf] at p1; exact p1⟩⟩
theorem e_callH (h : HasH X.prog X.w X.K X.mg X.base (L2.CX X.prog X.w) k x ps (spM c f)) (hr : L2H.RoomH k X.A) (hot : L2H.HotC X) (tk : Takes X W) (ha : PA X (e :: es) (tMA c W fs)) (hgl : Gl X x := by rfl) (hdb : (x == ("__debug__" : Str)) = false := by decide)
    (he : starEach (e :: es) X.env = (false, eval e X.env) :: starEach es X.env := by rfl) (hpl : (backTo pos (starEach es X.env)).any (·.1) = false := by rfl) : PE X (.Call (.Name x p) (e :: es) [] pos) (tM c W (mCall f fs)) := by
  obtain ⟨fa, fd, g, kp, b, F⟩ := h
  exact pe_imp (L2H.pe_callH F hr hot hgl g kp b (fun σ => passAtM tk σ) ha hdb he hpl) entail_callS
theorem e_methH {pl : Sem Bool} (h : HasMH X.prog X.w X.K X.mg X.base (L2.CX X.prog X.w) k x m ps (spM c f)) (hr : L2H.RoomH k X.A) (hot : L2H.HotC X) (tk : Takes X W) (ho : PE X o (tM c W fo)) (ha : PA X (e :: es) (tMA c W fs)) (F : Fits X c := by exact ⟨rfl, rfl⟩)
    (star : starEach (e :: es) X.env = (false, eval e X.env) :: starEach es X.env := by rfl) (back : (backTo pos (starEach es X.env)).any (·.1) = false := by rfl)
    (text : eval (.Call (.Attribute o m apos) (e :: es) [] pos) X.env = (do
      let y ← eval o X.env
      standAt apos.atName
      let (f, first) ← holding [y] (getMethod y m pl)
      callWith pos f first (backTo pos (starEach (e :: es) X.env)) (backToKw pos (keywordEach [] X.env))) := by rfl) : PE X (.Call (.Attribute o m apos) (e :: es) [] pos) (tM c W (mMeth x m f fo fs)) := by
  obtain ⟨C, g, fd, hx, cl, mt, bd, ok⟩ := h
  exact pe_imp (L2H.pe_methH (pl := pl) ho cl mt ok hr hot bd (fun σ => passAtM tk σ) ha star back text) (entail_meth (F.mg ▸ hx))
theorem e_meth0H {pl : Sem Bool} (h : HasMH X.prog X.w X.K X.mg X.base (L2.CX X.prog X.w) k x m ps (spM c f)) (hr : L2H.RoomH k X.A) (hot : L2H.HotC X) (tk : Takes X W) (ho : PE X o (tM c W fo)) (F : Fits X c := by exact ⟨rfl, rfl⟩)
    (text : eval (.Call (.Attribute o m apos) [] [] pos) X.env = (do
      let y ← eval o X.env
      standAt apos.atName
      let (f, first) ← holding [y] (getMethod y m pl)
      callWith pos f first (backTo pos (starEach [] X.env)) (backToKw pos (keywordEach [] X.env))) := by rfl) : PE X (.Call (.Attribute o m apos) [] [] pos) (tM c W (mMeth x m f fo mNil)) := by
  obtain ⟨C, g, fd, hx, cl, mt, bd, ok⟩ := h
  refine pe_imp (t := tMethT C m (spM c f) (fun σ cls d H => W cls d σ H) (tM c W fo) tNil) ⟨fun pins s σ H Q I h => PySem.W.methodCall_KW (pl := pl) (thn (ho.run pins s σ H _ I h) fun ov s1 ⟨v, H1, I1, rv, a, dx, fs, hv, ha, hl, q⟩ => ?_) text⟩ (entail_meth0 (F.mg ▸ hx))
  cases hv
  have z : ov = Value.ref a := rv
  cases z
  refine getmeth_ok I1 ha cl mt hl ?_
  exact PySem.W.callWith_K0 (first := [.ref a]) I1.kIn mt.kp (L2H.run_fnH (E := fun σ cls d H => W cls d σ H) (us := [Value.ref a]) (vs := [V.ref a]) ok hr hot bd (passAtM tk σ) I1 (.cons rfl .nil) q)
theorem s_raiseH {x m : Str} {j : Nat} {p p2 pos pos' : Pos} (T : ExcT X.K X.mg x) (hot : L2H.HotC X) (tk : Takes X W) (F : Fits X c := by exact ⟨rfl, rfl⟩) (hg : Gl X x := by rfl) (nd : (x == ("__debug__" : Str)) = false := by decide) :
    PS X (.Raise (some (.Call (.Name x p) [.Constant (.str m) j p2] [] pos)) none pos') (tMS c W (mRaise x)) := by
  obtain ⟨C, bmB, B, n1, n2, f1, f2, g, kp, s1, s2⟩ := T
  exact ps_imp (L2H.ps_raiseH hot tk (L2N.pmk_own f1 f2 g kp (raises_own s1 s2) hg nd)) fun D σ H ⟨w, σa, st, rl, q⟩ => q σ (.ref C) none w H (Ext.refl _ _) rl ⟨C, rfl, F.mg ▸ g, rfl⟩
/-- what is not reached -/
def mNo : MS := fun _ _ => .no
theorem s_no {S : Stmt} : PS X S (tMS c W mNo) := ⟨fun _ _ _ _ _ _ ⟨_, _, _, _, h⟩ => h.elim⟩
theorem s_tryAsH {isE : Str → Str → Option Bool} {y n : Str} {j : Nat} {body suite : List Stmt} {b₀ : Stmt} {np pos pos' : Pos} {b : MS} {s : Exn → MS} (T : ExmT c isE) (hx : ExcT X.K X.mg y) (hot : L2H.HotC X) (tk : Takes X W) (hN : X.N.Nodup) (hi : X.N[j]? = some n) (hln : X.env.kindOf n = some .local)
    (hb : ∀ (W : WX) (pn : List (Addr × Obj)) (xe : Value → Shared → Prop), L2H.HotC (X.tr pn xe) → Takes (X.tr pn xe) W → PassesOwn (model X.prog X.w) X.A X.env xe → PSs (X.tr pn xe) body (tMS c W b))
    (hsu : ∀ (a : Addr) (oe : Obj) (cls : Value) (d : Option Addr) (pn : List (Addr × Obj)) (x : Exn), Zc cls d oe → (∃ vs, oe.data = .fields vs) → PSs (X.suite a ((a, oe) :: pn)) (b₀ :: suite) (tMSP (PhiE c j a cls d x) c (fun _ _ _ _ => False) (s x))) (F : Fits X c := by exact ⟨rfl, rfl⟩)
    (hs : X.stack = X.env :: X.outer := by rfl) (hf : X.env.frame = some X.env.locals := by rfl) (hg : Gl X y := by rfl) (nd : (y == ("__debug__" : Str)) = false := by decide) :
    PS X (.Try body [.ExceptHandler (some (.Name y np)) (some n) (b₀ :: suite) pos'] [] [] pos) (tMS c W (mTryAs isE y j b s)) := by
  obtain ⟨Dy, _, _, _, _, _, _, hY, _⟩ := hx
  obtain ⟨q, hq, mem⟩ := hot
  exact ps_imp (L2H.ps_try_asH (Wout := W) hs hf hN hi hln ⟨hg, nd, .inl hY⟩ tk (fun W pn xe sub => hb W pn xe ⟨q, hq, sub q mem⟩) (fun a oe cls d pn z q => pss_ex fun x => hsu a oe cls d pn x z q)) fun D σ H h => by
    have r := entail_tryAs T (F.mg ▸ hY) D σ H h
    rw [F.K]
    exact r
end
/-! loops over range there -/
theorem pih_imp {X : Cx} {tg iter : Expr} {t t' : TI} (h : L2H.PIH X tg iter t) (i : ∀ σ H R, t' σ H R → t σ H R) : L2H.PIH X tg iter t' := ⟨fun pins s σ H R I q => h.run pins s σ H R I (i σ H R q)⟩
section
variable {X : Cx} {c : Ctx} {W : WX} {e a1 a2 a3 tg iter elt : Expr} {es : List Expr} {body : List Stmt} {t : MT} {b : MS} {it : MI} {g : MG} {f : ME} {fs : MA} {p pos : Pos}
theorem i_range1H (hm : c.mg "range" = none) (ha : PA X [a1] (tMA c W fs)) (hgl : Gl X "range" := by rfl) (F : Fits X c := by exact ⟨rfl, rfl⟩) (hs : starEach [a1] X.env = [(false, eval a1 X.env)] := by rfl) : L2H.PIH X tg (.Call (.Name "range" p) [a1] [] pos) (tMI c W (iRng1M fs)) :=
  pih_imp (L2H.pi_range1H hgl (by rw [F.mg]; exact hm) ha hs) fun σ H R ⟨w, σa, st, rl, p⟩ => ⟨w, σa, st, rl, p.bind fun vs xs st1 w1 H1 _ rl1 rx p1 => by
    simp only [ifc] at p1
    split at p1
    · split at p1
      · rename_i h
        obtain ⟨v, rfl, r⟩ := pr1 rx
        cases r
        exact ⟨_, rfl, h.1, h.2, p1.here rl1 ItA.range⟩
      · exact p1.elim
    · exact p1.elim⟩
theorem s_forH (hp : PassesOwn (model X.prog X.w) X.A X.env X.xe) (hot : L2H.HotC X) (hi : L2H.PIH X tg iter (tMI c W it)) (hg : PG X tg (tMG c g)) (hb : PSs X body (tMS c W b)) (hs : ∀ x, foldedSetIterable iter X.env x = pure x := by intro _; rfl) :
    PS X (.For tg iter body [] pos) (tMS c W (mFor it g b)) := ps_imp (L2H.ps_forH hp hot hi hg hb hs) fun D σ H ⟨w, σa, st, rl, p⟩ =>
  ⟨w, σa, st, rl, PostO.lift p fun J k st1 w1 H1 e1 rl1 hk p1 => by
    refine ⟨fun i m σ H => ∃ w' σa' st', m = k.items.length - i ∧ i ≤ k.items.length ∧ Ext w1 st1.length w' st'.length ∧ Rel c w' σa' st' σ H ∧ PostO c w' st'.length W D (forA g b k.ok (k.items.drop i) σa' st'), ⟨_, w1, σa, st1, rfl, Nat.zero_le _, Ext.refl _ _, rl1, p1⟩, ?_⟩
    rintro i m σ2 H2 ⟨w2, σa2, st2, rfl, hi, e2, rl2, p2⟩
    by_cases hlt : i < k.items.length
    · have hx : k.items[i]? = some k.items[i] := List.getElem?_eq_getElem hlt
      rw [List.drop_eq_getElem_cons hlt, forA] at p2
      obtain ⟨ok, p2⟩ := PostO.need p2
      obtain ⟨go, yl⟩ := (hk w2 st2 H2 e2 rl2.rs ok).2 i _ hx
      refine .inr ⟨go, fun σ' H' => ∃ w' σa' st', Ext w1 st1.length w' st'.length ∧ Rel c w' σa' st' σ' H' ∧ PostO c w' st'.length W D (forA g b k.ok (k.items.drop (i + 1)) σa' st'), fun σ' H' ⟨w', σa', st', q⟩ => ⟨k.items.length - (i + 1), by omega, w', σa', st', rfl, hlt, q⟩, fun v H3 y => ?_⟩
      obtain ⟨w3, e3, rl3, ra⟩ := yl v H3 y σa2 σ2 rl2
      refine ⟨w3, σa2, st2, _, rl3, ra, ?_⟩
      split at p2
      · exact p2.elim
      · rename_i σ4 st4 hg
        rw [hg]
        intro σ' w' H' e4 rl4
        refine ⟨w', σ4, st4, rl4, ?_⟩
        have ex := (e2.trans e3).trans e4
        have p3 := PostO.mono (e3.trans e4) p2
        cases hb : b σ4 st4 with
        | nx σ5 st5 => rw [hb] at p3; exact fun σ' w' H' e r => ⟨w', σ5, st5, ex.trans e, r, PostO.mono e p3⟩
        | ct σ5 st5 => rw [hb] at p3; exact fun σ' w' H' e r => ⟨w', σ5, st5, ex.trans e, r, PostO.mono e p3⟩
        | bk σ5 st5 => rw [hb] at p3; exact p3
        | rt _ _ => rw [hb] at p3; exact p3
        | ex _ _ _ => rw [hb] at p3; exact p3
        | no => rw [hb] at p3; exact p3
    · have e : i = k.items.length := by omega
      subst e
      rw [List.drop_length, forA] at p2
      obtain ⟨ok, p2⟩ := PostO.need p2
      exact .inl ⟨(hk w2 st2 H2 e2 rl2.rs ok).1, PostO.nxt p2 rl2⟩⟩
end
end Am
/-! ### Am: an exception leaves a comprehension's block -/
namespace Am
open PySem PySem.Spec PyProof.Rows L2
theorem note_eq {x : Value} {env1 env2 : Env} (h : env1.frame = env2.frame) : noteFrame x env1 = noteFrame x env2 := by
  unfold noteFrame PySem.frameOf
  rw [h]
section
variable {M : Model} {A : Around} {E : Value → Shared → Prop} {s : Shared} {Z : Obj → Prop} {B : Heap} {env : Env} {outer : List Env} {L C a : Addr}
/-- noted at another frame's number, now at ours -/
theorem looks_other {Q : Unit → Shared → Prop} (hZ : HandSPX.Steady Z) (hfr : A.frames = some (env :: outer)) (hf : env.frame = some L) (ne : C ≠ L) (hh : HandSPX.HeldZ B (env :: outer) a Z C s.heap)
    (hQ : ∀ h2, HandSPX.HeldZ B (env :: outer) a Z L h2 → s.heap.UpToSlots h2 → Q () { s with heap := h2 }) : wpAny M A (noteFrame (.ref a) env) Q E s := by
  obtain ⟨st, na, fr, oa, va, T, oT, vt, ga, za, da, da1, nT, Ta, gT, dT, dT3⟩ := hh
  unfold noteFrame
  simp only [hf]
  refine wpAny_bind (wpAny_field ga da da1 ?_)
  rw [if_pos (by simp)]
  refine wpAny_bind (wpAny_field gT dT dT3 ?_)
  rw [if_neg fun z => ne (by simp [rawInt] at z; exact Int.ofNat_inj.mp z)]
  refine wpAny_bind (wpAny_setField gT dT (Array.getElem?_eq_some_iff.mp dT3).1 ?_)
  have oth : ∀ b, b ≠ T → (s.heap.update T (Obj.mapFields (·.setIfInBounds 3 Value.none))).get? b = s.heap.get? b := fun b hb => Heap.get?_update_other _ _ fun z => hb z.symm
  have nrec : ∀ b o, s.heap.get? b = some o → (∀ v, o.data ≠ .fields v) → b ≠ T := fun b o hb hv z => by
    subst z
    rw [gT] at hb
    cases hb
    exact hv _ dT
  refine HandSPX.wpAny_entryZ hZ hfr (fr.of_keeps fun b o hb hv => ⟨o, by rw [oth b (nrec b o hb hv)]; exact hb, rfl⟩) hf (by rw [oth a fun z => Ta z.symm]; exact ga)
    (fun b o hb => by rw [oth b fun z => by subst z; rw [nT] at hb; cases hb]; exact st b o hb) na da (Array.getElem?_eq_some_iff.mp da1).1 za fun h2 hn => ?_
  obtain ⟨y1, y2, y3, y4⟩ := hn
  exact hQ h2 ⟨y1, na, y2, y3⟩ fun b o hb hv => y4 b o (by rw [oth b (nrec b o hb hv)]; exact hb) hv
end
theorem frames_but {h1 h2 B B2 : Heap} {C : Addr} (hB : ∀ b, b ≠ C → B2.get? b = B.get? b) (hh : ∀ b, b ≠ C → h2.get? b = h1.get? b) (hC : B.get? C ≠ none) : ∀ {l : List Env}, h1.FunFrames B l → h2.FunFrames B2 l
  | [], _ => trivial
  | e :: l, ⟨k, ⟨L, o, f, n, g, v⟩, r⟩ => by
    have ne : L ≠ C := fun z => hC (by rw [← z]; exact n)
    exact ⟨k, ⟨L, o, f, by rw [hB L ne]; exact n, by rw [hh L ne]; exact g, v⟩, frames_but hB hh hC r⟩
/-- an exception's wish that does not look at the slots -/
def Flat (W : WX) : Prop := ∀ cls d σ σ2 H, W cls d σ H → W cls d σ2 H
/-- a comprehension's block that may raise -/
abbrev blkE (X : Cx) (W : WX) (s : Shared) (H : Hp) (scope : Scope) (ce : Env) (fp : List Addr) : Cx := { X.blk s H scope ce fp with xe := XE (X.blk s H scope ce fp) W }
section
variable {X : Cx} {W : WX} {scope : Scope} {ce : Env} {fp : List Addr} {pins : List (Addr × Obj)} {σ : L2.St} {H : Hp} {s : Shared}
theorem inv_xe {E1 : Value → Shared → Prop} (I : Inv X pins σ H s) : Inv { X with xe := E1 } pins σ H s := by
  obtain ⟨ok, q1, q2, q3, q4, q5, q6, q7, q8, q9, q10⟩ := I
  obtain ⟨p1, p2, p3, p4, p5, p6, p7, p8, p9, p10, p11, p12, p13, p14, p15, p16, p17, p18⟩ := ok
  exact ⟨⟨p1, p2, p3, p4, p5, p6, p7, p8, p9, p10, p11, p12, p13, p14, p15, p16, p17, p18⟩, q1, q2, q3, q4, q5, q6, q7, q8, q9, q10⟩
theorem xe_any {E1 : Value → Shared → Prop} {u : Value} {s2 : Shared} (x : XE { X with xe := E1 } W u s2) : XE X W u s2 := by
  obtain ⟨a, B, sI, pins, σ, H, cls, d, e, I, nb, up, sky, na, os, ag, w⟩ := x
  exact ⟨a, B, sI, pins, σ, H, cls, d, e, inv_xe (X := { X with xe := E1 }) (E1 := X.xe) I, nb, up, sky, na, os, ag, w⟩
theorem takes_blkE : Takes (blkE X W s H scope ce fp) W := fun _ _ x => xe_any x
/-- it goes on in the def's own frame -/
theorem blk_lets (hs : X.stack = X.env :: X.outer) (hf : X.env.frame = some X.env.locals) (tk : Takes X W) (fl : Flat W) (I3 : Inv X pins σ H s) (f3 : ∀ b ∈ fp, FpOk X pins H b ∧ b < s.heap.objs.size) (cL : ce.locals = s.heap.objs.size) (cF : ce.frame = X.env.frame)
    {u : Value} {s2 : Shared} (x : XE (X.blk s H scope ce fp) W u s2) : notedBy (model X.prog X.w) X.A ce (CompFails (model X.prog X.w) X.A X.xe ce) u s2 := by
  obtain ⟨a, B, sI, pins2, σ2, H2, cls, d, rfl, I2, nb, up, sky, na, os, ag, w⟩ := x
  have hfr : X.A.frames = some (X.env :: X.outer) := by rw [I3.ok.frames, hs]
  have nL : ce.locals ≠ X.env.locals := by rw [cL]; exact Nat.ne_of_gt I3.lt
  have nC : H2 ce.locals = none := I2.free
  have fpC : FpOk X pins H2 ce.locals := I3.fpOk (by rw [cL]; exact Nat.le_refl _) nC
  have Cst : ce.locals ∉ frs X.stack := fun z => by
    rcases List.mem_cons.mp (I3.stkSub _ z) with z | z
    · exact nL z
    · exact fpC.2.2.1 z
  have fin : ∀ h1, HandSPX.HeldZ B (X.env :: X.outer) a (Zc cls d) X.env.locals h1 → s2.heap.UpToSlots h1 → CompFails (model X.prog X.w) X.A X.xe ce (.ref a) { s2 with heap := h1 } := fun h1 hh up1 => by
    obtain ⟨m, ⟨o0, es, ep, ho, hd0, sk, fd⟩, _⟩ := I2.loc
    have ho : sI.heap.get? ce.locals = some o0 := ho
    have nf : ∀ sl : List (Nat × Value), True := fun _ => trivial
    obtain ⟨sl1, e1⟩ := up _ _ ho fun v z => by rw [hd0] at z; cases z
    obtain ⟨sl2, e2⟩ := up1 _ _ e1 fun v z => by
      have z : o0.data = .fields v := z
      rw [hd0] at z; cases z
    refine ⟨m, ⟨_, es, ep, e2, hd0, sk, fd⟩, fun h2 m2 hn2 sb => ?_⟩
    obtain ⟨oC, es2, ep2, hC2, dC2, _⟩ := hn2
    have live : oC.isFreed = false := (Heap.get?_some_iff.mp hC2).2
    have BC : B.get? ce.locals = some o0 := nb _ _ ho Cst
    have b1 := Heap.get?_update_self (fun _ => oC) BC live
    have b2 : ∀ b, b ≠ ce.locals → (B.update ce.locals fun _ => oC).get? b = B.get? b := fun b hb => Heap.get?_update_other _ _ fun z => hb z.symm
    have i1 := Heap.get?_update_self (fun _ => oC) ho live
    have i2 : ∀ b, b ≠ ce.locals → (sI.heap.update ce.locals fun _ => oC).get? b = sI.heap.get? b := fun b hb => Heap.get?_update_other _ _ fun z => hb z.symm
    generalize B.update ce.locals (fun _ => oC) = B2 at b1 b2
    generalize hK : sI.heap.update ce.locals (fun _ => oC) = K at i1 i2
    obtain ⟨y1, y2, y3, oa, va, T, oT, vt, ga, za, da, da1, nT, Ta, gT, dT, dT3⟩ := hh
    have aC : a ≠ ce.locals := fun z => by rw [z, BC] at y2; cases y2
    have TC : T ≠ ce.locals := fun z => by rw [z, BC] at nT; cases nT
    have ga2 : h2.get? a = some oa := (sb.2 a aC).trans ga
    have held : HandSPX.HeldZ B2 (X.env :: X.outer) a (Zc cls d) X.env.locals h2 := by
      refine ⟨fun b o e => ?_, by rw [b2 a aC]; exact y2, frames_but b2 sb.2 (by rw [BC]; exact fun z => nomatch z) y3, oa, va, T, oT, vt, ga2, za, da, da1, by rw [b2 T TC]; exact nT, Ta, (sb.2 T TC).trans gT, dT, dT3⟩
      by_cases z : b = ce.locals
      · subst z
        rw [b1] at e
        cases e
        exact hC2
      · rw [b2 b z] at e
        exact (sb.2 b z).trans (y1 b o e)
    unfold PySem.passOn
    refine wpAny_bind (wpAny_field (s := { s2 with heap := h2 }) ga2 da da1 ?_)
    rw [if_neg (by simp)]
    rw [cF, hf]
    refine wpAny_bind (HandSPX.setFlight_onZ (s := { s2 with heap := h2 }) held fun h3 held3 up3 => ?_)
    refine wpAny_throw (tk _ _ ?_)
    have Ia : Inv X pins σ H2 sI := I3.call' (ch := fp) I2.os I2.base I2.hok I2.bare fun b hb => ⟨(f3 b hb).1.2.2.2.1, (f3 b hb).1.2.1, (f3 b hb).1.2.2.2.2.1, (f3 b hb).1.2.2.2.2.2⟩
    obtain ⟨c0, c1, c2, c3, c4, c5⟩ := fpC
    have Ib := Ia.turned (t' := sI.toks) (h' := K) (it := ce.locals) (fun b o hb e => by rw [i2 b hb]; exact e) c0 c1 c3 c4 c5
    refine ⟨a, B2, { sI with heap := K }, pins, σ, H2, cls, d, rfl, Ib, fun b o e hb => ?_, fun b o e hv => ?_, ?_, na, os, ag, fl _ _ _ _ _ w⟩
    · by_cases z : b = ce.locals
      · subst z
        exact b1.trans (i1.symm.trans e)
      · rw [b2 b z]
        exact nb b o ((i2 b z).symm.trans e) hb
    · by_cases z : b = ce.locals
      · subst z
        have e : K.get? ce.locals = some o := e
        rw [i1] at e
        cases e
        exact up3 _ _ hC2 hv
      · obtain ⟨l1, k1⟩ := up b o ((i2 b z).symm.trans e) hv
        obtain ⟨l2, k2⟩ := up1 b _ k1 hv
        obtain ⟨l3, k3⟩ := up3 b _ ((sb.2 b z).trans k2) hv
        exact ⟨l3, k3⟩
    · rw [hs]
      exact .inr (.inr held3)
  have hfe : ce.frame = some X.env.locals := cF.trans hf
  show wpAny _ _ (noteFrame (.ref a) ce) _ _ _
  rw [note_eq cF]
  have sky : Sky B X.stack a (Zc cls d) ce.locals s2.heap := sky
  rw [hs] at sky
  rcases sky with ⟨q1, q2, q3, oa, va, q4, q5, q6, q7⟩ | fl2 | hd
  · exact HandSPX.look_newZ Zc.steady hfr q3 hf q4 q1 q2 q6 q7 q5 fun h1 hh up1 => fin h1 hh up1
  · exact HandSPX.looks_onZ Zc.steady hfr hf fl2 fun h1 hh up1 => fin h1 hh up1
  · exact looks_other Zc.steady hfr hf nL hd fun h1 hh up1 => fin h1 hh up1
end
end Am
/-! ### Am: list comprehensions whose items may raise -/
namespace Am
open PySem PySem.Spec PyProof.Rows L2
section
variable {X : Cx} {W : WX}
theorem mono_q {α : Type} {M : Model} {A : Around} {t : Sem α} {Q Q2 : α → Shared → Prop} {E : Value → Shared → Prop} {s : Shared} (h : wpAny M A t Q E s) (k : ∀ x s1, Q x s1 → Q2 x s1) : wpAny M A t Q2 E s := wpAny_mono h k fun _ _ z => z
theorem lcE_core {pins : List (Addr × Obj)} {s : Shared} {σ : L2.St} {H : Hp} {Q : VK} {elt tg iter : Expr} {ifs : List Expr} {scope : Scope} {own : List (Str × Nat)} {pos pos2 : Pos} {wi : TI} {g : TG} {tt : TT} {te : TE} {Qf : Value → Shared → Prop}
    (hc : X.calm = true) (hN : X.N.Nodup) (hs : X.stack = X.env :: X.outer) (hf : X.env.frame = some X.env.locals) (tk : Takes X W) (fl : Flat W) (I : Inv X pins σ H s) (hi : PI X tg iter wi) (ok : BlkOk X.N X.env.scope scope own)
    (hg : ∀ (s : Shared) (H : Hp) (C : Addr) (cl : List (Str × Addr)) (fp : List Addr), PG (blkE X W s H scope (compEnvC scope cl C X.env) fp) tg g)
    (ht : ∀ (s : Shared) (H : Hp) (C : Addr) (cl : List (Str × Addr)) (fp : List Addr), PTs (blkE X W s H scope (compEnvC scope cl C X.env) fp) ifs tt)
    (he : ∀ (s : Shared) (H : Hp) (C : Addr) (cl : List (Str × Addr)) (fp : List Addr), PE (blkE X W s H scope (compEnvC scope cl C X.env) fp) elt te)
    (fold : ∀ x, foldedSetIterable iter X.env x = pure x) (h : tLc wi g tt te (own.map (·.2)) σ H Q)
    (fin : ∀ D C s2 m H2, Inv X pins σ H2 s2 → Q (.ref D) H2 → s2.heap.Ns C m → FpOk X pins H2 C → ∀ h2, Heap.SameBut C s2.heap h2 → Qf (.ref D) { s2 with heap := h2 }) :
    wpAny (model X.prog X.w) X.A (comprehension (.ListComp elt [⟨tg, iter, ifs, 0⟩] scope pos) scope X.env pos2 (newList []) false (eval iter X.env) none) Qf X.xe s := by
  have free : ∀ y ∈ scope.names, y.2 = .free → ∃ c, X.env.cells.lookup y.1 = some c := fun y hy e => I.ok.has _ ((ok.free y hy e).imp id id)
  refine comprehension_at (use := none) rfl fold (closure_ok free) ok.kind (fun y hy e => (ok.uniq y hy).trans (congrArg some e)) ?_
  refine mono_q (hi.run pins s σ H _ I h) fun xv s1 hx => mono_q hx fun itv s2 h2 => ?_
  obtain ⟨it, fp, tn, J, H2, rfl, I2, T, st2, f2, q⟩ := h2
  refine wpAny_newObj_type (newEnv_comp ?_) (by show 0 ≤ sizeLine; decide)
  obtain ⟨D, hD⟩ : ∃ D, s2.heap.objs.size = D := ⟨_, rfl⟩
  have freshD : H2 D = none := I2.hok.fresh (Nat.le_of_eq hD)
  obtain ⟨V, ⟨m0, v0⟩, turn⟩ := q D freshD
  rw [hD]
  -- the state with the list
  obtain ⟨s3, hs3⟩ : ∃ s3 : Shared, { s2 with heap := s2.heap.push { cls := .type "list", data := .seq ([] : List Value).toArray } } = s3 := ⟨_, rfl⟩
  have I3 : Inv X pins σ (upd H2 D (.lst [])) s3 := by
    subst hs3
    refine I2.laid (t' := s2.toks) (fun b u e => Heap.get?_push_of_some _ e) (Nat.le_of_eq hD) ⟨Nat.zero_le _, [], 0, .nil, ?_⟩
    subst hD
    exact Heap.get?_push_size _ rfl
  have old3 : ∀ b u, s2.heap.get? b = some u → s3.heap.get? b = some u := fun b u e => by subst hs3; exact Heap.get?_push_of_some _ e
  have lt2 : ∀ b ∈ fp, b < s2.heap.objs.size := fun b hb => (T.obj _ _ st2 b hb).elim fun _ e => Heap.lt_size e.1
  have sz3 : s3.heap.objs.size = s2.heap.objs.size + 1 := by subst hs3; exact Heap.size_push ..
  have f3 : ∀ b ∈ fp, FpOk X pins (upd H2 D (.lst [])) b ∧ b < s3.heap.objs.size := fun b hb => by
    have l := lt2 b hb
    refine ⟨⟨?_, (f2 b hb).2⟩, by rw [sz3]; exact Nat.lt_succ_of_lt l⟩
    rw [upd_ne (by rw [← hD]; exact Nat.ne_of_lt l)]
    exact (f2 b hb).1
  have st3 : tn 0 s3.heap := T.keep _ _ _ st2 fun b _ u e => old3 b u e
  have I4 := block_start I3 ok hN f3
  show codeAny _ _ (.compStart (.ListComp elt [⟨tg, iter, ifs, 0⟩] scope pos) 0 (.ref it) (.ref D) (compEnvC scope (cellsFrom (({ s2 with heap := s2.heap.push { cls := .type "list", data := .seq ([] : List Value).toArray } } : Shared).heap.objs.size + 1) scope.names (cloFrom X.env.cells scope.names [])) ({ s2 with heap := s2.heap.push { cls := .type "list", data := .seq ([] : List Value).toArray } } : Shared).heap.objs.size X.env))
    (compEnds (model X.prog X.w) X.A X.xe none Qf (.ref D) (compEnvC scope (cellsFrom (({ s2 with heap := s2.heap.push { cls := .type "list", data := .seq ([] : List Value).toArray } } : Shared).heap.objs.size + 1) scope.names (cloFrom X.env.cells scope.names [])) ({ s2 with heap := s2.heap.push { cls := .type "list", data := .seq ([] : List Value).toArray } } : Shared).heap.objs.size X.env))
    { ({ s2 with heap := s2.heap.push { cls := .type "list", data := .seq ([] : List Value).toArray } } : Shared) with heap := pushCells (({ s2 with heap := s2.heap.push { cls := .type "list", data := .seq ([] : List Value).toArray } } : Shared).heap.push { cls := .type "dict", data := .dict #[] }) scope.names }
  rw [hs3]
  have pg := hg s3 (upd H2 D (.lst [])) s3.heap.objs.size (cellsFrom (s3.heap.objs.size + 1) scope.names (cloFrom X.env.cells scope.names [])) fp
  have pt := ht s3 (upd H2 D (.lst [])) s3.heap.objs.size (cellsFrom (s3.heap.objs.size + 1) scope.names (cloFrom X.env.cells scope.names [])) fp
  have pe := he s3 (upd H2 D (.lst [])) s3.heap.objs.size (cellsFrom (s3.heap.objs.size + 1) scope.names (cloFrom X.env.cells scope.names [])) fp
  have lets := fun (u : Value) (s5 : Shared) (x : XE (X.blk s3 (upd H2 D (.lst [])) scope (compEnvC scope (cellsFrom (s3.heap.objs.size + 1) scope.names (cloFrom X.env.cells scope.names [])) s3.heap.objs.size X.env) fp) W u s5) => blk_lets hs hf tk fl I3 f3 (ce := compEnvC scope (cellsFrom (s3.heap.objs.size + 1) scope.names (cloFrom X.env.cells scope.names [])) s3.heap.objs.size X.env) rfl rfl x
  have nfp : ∀ b ∈ fp, (upd H2 D (.lst [])) b = none := fun b hb => (f3 b hb).1.1
  obtain ⟨ce, hce⟩ : ∃ ce, compEnvC scope (cellsFrom (s3.heap.objs.size + 1) scope.names (cloFrom X.env.cells scope.names [])) s3.heap.objs.size X.env = ce := ⟨_, rfl⟩
  rw [hce] at I4 pg pt pe lets ⊢
  have cL : ce.locals = s3.heap.objs.size := by subst hce; rfl
  obtain ⟨H3, hH3⟩ : ∃ H3, upd H2 D (.lst []) = H3 := ⟨_, rfl⟩
  rw [hH3] at I3 I4 pg pt pe v0 nfp f3 lets
  obtain ⟨s4, hs4⟩ : ∃ s4 : Shared, { s3 with heap := pushCells (s3.heap.push { cls := .type "dict", data := .dict #[] }) scope.names } = s4 := ⟨_, rfl⟩
  rw [hs4] at I4 ⊢
  have st4 : tn 0 s4.heap := T.keep _ _ _ st3 fun b _ u e => by subst hs4; exact pushCells_keeps _ _ _ _ (Heap.get?_push_of_some _ e)
  have I4 : Inv (blkE X W s3 H3 scope ce fp) [] (wipe σ (own.map (·.2))) H3 s4 := inv_xe I4
  have fpo : ∀ {σ5 : L2.St} {H5 : Hp} {s5 : Shared}, Inv (blkE X W s3 H3 scope ce fp) [] σ5 H5 s5 → (∀ b ∈ fp, H5 b = none) → ∀ b ∈ fp, FpOk (blkE X W s3 H3 scope ce fp) [] H5 b := fun J5 n b hb =>
    ⟨n b hb, (J5.ok.exf b hb).1, J5.ok.exfs b hb, .inl hb, fun x c e => (J5.ok.exf b hb).2 x c e, fun p hp => absurd (show p ∈ ([] : List (Addr × Obj)) ++ [] from hp) (by simp)⟩
  have loop : codeAny (model X.prog X.w) X.A (.compLoop (.ListComp elt [⟨tg, iter, ifs, 0⟩] scope pos) 0 (.ref it) (.ref D) ce) (compEnds (model X.prog X.w) X.A X.xe none Qf (.ref D) ce) s4 := by
    refine compLoop_any (fun n s5 => ∃ i H5, Inv (blkE X W s3 H3 scope ce fp) [] (wipe σ (own.map (·.2))) H5 s5 ∧ tn i s5.heap ∧ (∀ b ∈ fp, H5 b = none) ∧ V i n H5) ?_ m0 ⟨0, H3, I4, st4, nfp, v0⟩
    rintro n s5 ⟨i, H5, I5, st5, n5, v5⟩
    rcases turn i n H5 v5 with ⟨stop, qq⟩ | ⟨go, Nx, hNx, step⟩
    · refine mono_q (T.done (blkE X W s3 H3 scope ce fp) rfl rfl rfl hc i [] s5 _ H5 _ I5 (fpo I5 n5) st5 stop) fun r s6 ⟨er, I6⟩ => ?_
      subst er
      have I7 : Inv X pins σ H5 s6 := I3.call' (ch := fp) I6.os I6.base I6.hok I6.bare fun b hb => ⟨(f3 b hb).1.2.2.2.1, (f3 b hb).1.2.1, (f3 b hb).1.2.2.2.2.1, (f3 b hb).1.2.2.2.2.2⟩
      have nC : H5 ce.locals = none := I6.free
      obtain ⟨m, hn, _⟩ := I6.loc
      exact ⟨m, hn, fun h2 sb => fin D ce.locals s6 m H5 I7 qq hn (I3.fpOk (by rw [cL]; exact Nat.le_refl _) nC) h2 sb⟩
    · refine mono_q (T.item (blkE X W s3 H3 scope ce fp) rfl rfl rfl hc i [] s5 _ H5 _ I5 (fpo I5 n5) st5 go) fun r s6 ⟨u, er, h6⟩ => ?_
      subst er
      refine mono_q h6 fun _ s7 ⟨x, H7, I7, r7, y7, st7, n7⟩ => ?_
      have P7 := I7.pinned (fpo I7 n7) (T.obj _ _ st7)
      refine wpAny_mono (pg.run _ s7 _ H7 x u _ P7 r7 (step x H7 y7)) (fun _ s8 ⟨σ8, H8, I8, hw8, q8⟩ => ?_) lets
      refine wpAny_mono (pt.run _ s8 σ8 H8 _ I8 q8) (fun b s9 ⟨H9, I9, q9⟩ => ?_) lets
      have nxt : ∀ {sN : Shared} {HN : Hp}, Inv (blkE X W s3 H3 scope ce fp) ([] ++ pinsAt fp s7.heap) σ8 HN sN → Nx HN → ∃ m, m < n ∧ ∃ i H6, Inv (blkE X W s3 H3 scope ce fp) [] (wipe σ (own.map (·.2))) H6 sN ∧ tn i sN.heap ∧ (∀ b ∈ fp, H6 b = none) ∧ V i m H6 := fun {sN HN} JN nx => by
        obtain ⟨m2, lt, v2⟩ := hNx HN nx
        have kp : ∀ b ∈ fp, ∀ o, s7.heap.get? b = some o → sN.heap.get? b = some o ∧ HN b = none := fun b hb o e =>
          ⟨(JN.pin (b, o) (List.mem_append_right _ (List.mem_append_right _ (mem_pinsAt hb e)))).1, (JN.pin (b, o) (List.mem_append_right _ (List.mem_append_right _ (mem_pinsAt hb e)))).2.1⟩
        refine ⟨m2, lt, i + 1, HN, (JN.unpinned (pins := [])).weak (by rw [← hw8, wipe_length]) (fun j w e => ?_), T.keep _ _ _ st7 fun b hb o e => (kp b hb o e).1, fun b hb => ?_, v2⟩
        · rw [← hw8] at e
          exact (wipe_some e).1
        · obtain ⟨o, e, _⟩ := T.obj _ _ st7 b hb
          exact (kp b hb o e).2
      cases b with
      | false => exact nxt I9 (by simpa using q9)
      | true =>
        refine wpAny_mono (pe.run _ s9 σ8 H9 _ I9 (by simpa using q9)) (fun z s10 hz => ?_) lets
        obtain ⟨yv, H10, I10, r10, acc, a1, a2, a3⟩ := hz
        exact app_ok (X := blkE X W s3 H3 scope ce fp) I10 a1 a2 r10 fun s11 I11 => nxt I11 a3
  exact codeAny_compStart_list loop (T.self X.A 0 _ _ _ st4 loop)
end
end Am
/-! ### Am: comprehensions and zip loops within an except suite -/
namespace Am
open PySem PySem.Spec PyProof.Rows L2
/-- a comprehension's block there -/
abbrev blkH (X : Cx) (s : Shared) (H : Hp) (scope : Scope) (ce : Env) (fp : List Addr) : Cx := { X.blk s H scope ce fp with pn := X.pn }
section
variable {X : Cx} {W : WX}
theorem inv_pn {scope : Scope} {ce : Env} {fp : List Addr} {s0 s : Shared} {H0 H : Hp} {σ : L2.St} {pn : List (Addr × Obj)} (I : Inv (X.blk s0 H0 scope ce fp) [] σ H s)
    (h : ∀ p ∈ pn, s.heap.get? p.1 = some p.2 ∧ H p.1 = none ∧ p.1 ≠ ce.locals ∧ p.1 ∉ frs X.stack ∧ ∀ v, p.2.data ≠ .cell v) : Inv { X.blk s0 H0 scope ce fp with pn := pn } [] σ H s := by
  obtain ⟨ok, q1, q2, q3, q4, q5, q6, q7, q8, q9, q10⟩ := I
  obtain ⟨p1, p2, p3, p4, p5, p6, p7, p8, p9, p10, p11, p12, p13, p14, p15, p16, p17, p18⟩ := ok
  exact ⟨⟨p1, p2, p3, p4, p5, p6, p7, p8, p9, p10, p11, p12, p13, p14, p15, p16, p17, p18⟩, q1, q2, q3, q4, q5, q6, q7, fun p hp => h p (by rcases List.mem_append.mp hp with h | h; exact h; cases h), q9, q10⟩
theorem lcH_core {pins : List (Addr × Obj)} {s : Shared} {σ : L2.St} {H : Hp} {Q : VK} {elt tg iter : Expr} {ifs : List Expr} {scope : Scope} {own : List (Str × Nat)} {pos pos2 : Pos} {wi : TI} {g : TG} {tt : TT} {te : TE} {Qf : Value → Shared → Prop}
    (hc : L2H.HotC X) (hN : X.N.Nodup) (I : Inv X pins σ H s) (hi : L2H.PIH X tg iter wi) (ok : BlkOk X.N X.env.scope scope own)
    (hg : ∀ (s : Shared) (H : Hp) (C : Addr) (cl : List (Str × Addr)) (fp : List Addr), PG (blkH X s H scope (compEnvC scope cl C X.env) fp) tg g)
    (ht : ∀ (s : Shared) (H : Hp) (C : Addr) (cl : List (Str × Addr)) (fp : List Addr), PTs (blkH X s H scope (compEnvC scope cl C X.env) fp) ifs tt)
    (he : ∀ (s : Shared) (H : Hp) (C : Addr) (cl : List (Str × Addr)) (fp : List Addr), PE (blkH X s H scope (compEnvC scope cl C X.env) fp) elt te)
    (fold : ∀ x, foldedSetIterable iter X.env x = pure x) (h : tLc wi g tt te (own.map (·.2)) σ H Q)
    (fin : ∀ D C s2 m H2, Inv X pins σ H2 s2 → Q (.ref D) H2 → s2.heap.Ns C m → FpOk X pins H2 C → ∀ h2, Heap.SameBut C s2.heap h2 → Qf (.ref D) { s2 with heap := h2 }) :
    wpAny (model X.prog X.w) X.A (comprehension (.ListComp elt [⟨tg, iter, ifs, 0⟩] scope pos) scope X.env pos2 (newList []) false (eval iter X.env) none) Qf X.xe s := by
  have free : ∀ y ∈ scope.names, y.2 = .free → ∃ c, X.env.cells.lookup y.1 = some c := fun y hy e => I.ok.has _ ((ok.free y hy e).imp id id)
  refine comprehension_at (use := none) rfl fold (closure_ok free) ok.kind (fun y hy e => (ok.uniq y hy).trans (congrArg some e)) ?_
  refine mono_q (hi.run pins s σ H _ I h) fun xv s1 hx => mono_q hx fun itv s2 h2 => ?_
  obtain ⟨it, fp, tn, J, H2, rfl, I2, T, st2, f2, q⟩ := h2
  refine wpAny_newObj_type (newEnv_comp ?_) (by show 0 ≤ sizeLine; decide)
  obtain ⟨D, hD⟩ : ∃ D, s2.heap.objs.size = D := ⟨_, rfl⟩
  have freshD : H2 D = none := I2.hok.fresh (Nat.le_of_eq hD)
  obtain ⟨V, ⟨m0, v0⟩, turn⟩ := q D freshD
  rw [hD]
  -- the state with the list
  obtain ⟨s3, hs3⟩ : ∃ s3 : Shared, { s2 with heap := s2.heap.push { cls := .type "list", data := .seq ([] : List Value).toArray } } = s3 := ⟨_, rfl⟩
  have I3 : Inv X pins σ (upd H2 D (.lst [])) s3 := by
    subst hs3
    refine I2.laid (t' := s2.toks) (fun b u e => Heap.get?_push_of_some _ e) (Nat.le_of_eq hD) ⟨Nat.zero_le _, [], 0, .nil, ?_⟩
    subst hD
    exact Heap.get?_push_size _ rfl
  have old3 : ∀ b u, s2.heap.get? b = some u → s3.heap.get? b = some u := fun b u e => by subst hs3; exact Heap.get?_push_of_some _ e
  have lt2 : ∀ b ∈ fp, b < s2.heap.objs.size := fun b hb => (T.obj _ _ st2 b hb).elim fun _ e => Heap.lt_size e.1
  have sz3 : s3.heap.objs.size = s2.heap.objs.size + 1 := by subst hs3; exact Heap.size_push ..
  have f3 : ∀ b ∈ fp, FpOk X pins (upd H2 D (.lst [])) b ∧ b < s3.heap.objs.size := fun b hb => by
    have l := lt2 b hb
    refine ⟨⟨?_, (f2 b hb).2⟩, by rw [sz3]; exact Nat.lt_succ_of_lt l⟩
    rw [upd_ne (by rw [← hD]; exact Nat.ne_of_lt l)]
    exact (f2 b hb).1
  have st3 : tn 0 s3.heap := T.keep _ _ _ st2 fun b _ u e => old3 b u e
  have I4 := block_start I3 ok hN f3
  show codeAny _ _ (.compStart (.ListComp elt [⟨tg, iter, ifs, 0⟩] scope pos) 0 (.ref it) (.ref D) (compEnvC scope (cellsFrom (({ s2 with heap := s2.heap.push { cls := .type "list", data := .seq ([] : List Value).toArray } } : Shared).heap.objs.size + 1) scope.names (cloFrom X.env.cells scope.names [])) ({ s2 with heap := s2.heap.push { cls := .type "list", data := .seq ([] : List Value).toArray } } : Shared).heap.objs.size X.env))
    (compEnds (model X.prog X.w) X.A X.xe none Qf (.ref D) (compEnvC scope (cellsFrom (({ s2 with heap := s2.heap.push { cls := .type "list", data := .seq ([] : List Value).toArray } } : Shared).heap.objs.size + 1) scope.names (cloFrom X.env.cells scope.names [])) ({ s2 with heap := s2.heap.push { cls := .type "list", data := .seq ([] : List Value).toArray } } : Shared).heap.objs.size X.env))
    { ({ s2 with heap := s2.heap.push { cls := .type "list", data := .seq ([] : List Value).toArray } } : Shared) with heap := pushCells (({ s2 with heap := s2.heap.push { cls := .type "list", data := .seq ([] : List Value).toArray } } : Shared).heap.push { cls := .type "dict", data := .dict #[] }) scope.names }
  rw [hs3]
  have pg := hg s3 (upd H2 D (.lst [])) s3.heap.objs.size (cellsFrom (s3.heap.objs.size + 1) scope.names (cloFrom X.env.cells scope.names [])) fp
  have pt := ht s3 (upd H2 D (.lst [])) s3.heap.objs.size (cellsFrom (s3.heap.objs.size + 1) scope.names (cloFrom X.env.cells scope.names [])) fp
  have pe := he s3 (upd H2 D (.lst [])) s3.heap.objs.size (cellsFrom (s3.heap.objs.size + 1) scope.names (cloFrom X.env.cells scope.names [])) fp
  have nfp : ∀ b ∈ fp, (upd H2 D (.lst [])) b = none := fun b hb => (f3 b hb).1.1
  obtain ⟨ce, hce⟩ : ∃ ce, compEnvC scope (cellsFrom (s3.heap.objs.size + 1) scope.names (cloFrom X.env.cells scope.names [])) s3.heap.objs.size X.env = ce := ⟨_, rfl⟩
  rw [hce] at I4 pg pt pe ⊢
  have cL : ce.locals = s3.heap.objs.size := by subst hce; rfl
  obtain ⟨H3, hH3⟩ : ∃ H3, upd H2 D (.lst []) = H3 := ⟨_, rfl⟩
  rw [hH3] at I3 I4 pg pt pe v0 nfp f3
  obtain ⟨s4, hs4⟩ : ∃ s4 : Shared, { s3 with heap := pushCells (s3.heap.push { cls := .type "dict", data := .dict #[] }) scope.names } = s4 := ⟨_, rfl⟩
  rw [hs4] at I4 ⊢
  have st4 : tn 0 s4.heap := T.keep _ _ _ st3 fun b _ u e => by subst hs4; exact pushCells_keeps _ _ _ _ (Heap.get?_push_of_some _ e)
  have hcB : L2H.HotC (blkH X s3 H3 scope ce fp) := hc
  have I4 : Inv (blkH X s3 H3 scope ce fp) [] (wipe σ (own.map (·.2))) H3 s4 := inv_pn I4 fun p hp => by
    obtain ⟨g1, g2, g3, g4, g5⟩ := I3.pin p (List.mem_append_left _ hp)
    refine ⟨by subst hs4; exact pushCells_keeps _ _ _ _ (Heap.get?_push_of_some _ g1), g2, by rw [cL]; exact Nat.ne_of_lt (Heap.lt_size g1), fun hm => ?_, g5⟩
    exact (List.mem_cons.mp (I3.stkSub p.1 hm)).elim g3 g4
  have fpo : ∀ {σ5 : L2.St} {H5 : Hp} {s5 : Shared}, Inv (blkH X s3 H3 scope ce fp) [] σ5 H5 s5 → (∀ b ∈ fp, H5 b = none) → ∀ b ∈ fp, FpOk (blkH X s3 H3 scope ce fp) [] H5 b := fun J5 n b hb =>
    ⟨n b hb, (J5.ok.exf b hb).1, J5.ok.exfs b hb, .inl hb, fun x c e => (J5.ok.exf b hb).2 x c e, fun p hp => (f3 b hb).1.2.2.2.2.2 p (List.mem_append_left _ (by rcases List.mem_append.mp hp with h | h; exact h; cases h))⟩
  have loop : codeAny (model X.prog X.w) X.A (.compLoop (.ListComp elt [⟨tg, iter, ifs, 0⟩] scope pos) 0 (.ref it) (.ref D) ce) (compEnds (model X.prog X.w) X.A X.xe none Qf (.ref D) ce) s4 := by
    refine compLoop_any (fun n s5 => ∃ i H5, Inv (blkH X s3 H3 scope ce fp) [] (wipe σ (own.map (·.2))) H5 s5 ∧ tn i s5.heap ∧ (∀ b ∈ fp, H5 b = none) ∧ V i n H5) ?_ m0 ⟨0, H3, I4, st4, nfp, v0⟩
    rintro n s5 ⟨i, H5, I5, st5, n5, v5⟩
    rcases turn i n H5 v5 with ⟨stop, qq⟩ | ⟨go, Nx, hNx, step⟩
    · refine mono_q (T.done (blkH X s3 H3 scope ce fp) rfl rfl rfl hcB i [] s5 _ H5 _ I5 (fpo I5 n5) st5 stop) fun r s6 ⟨er, I6⟩ => ?_
      subst er
      have I7 : Inv X pins σ H5 s6 := I3.call' (ch := fp) I6.os I6.base I6.hok I6.bare fun b hb => ⟨(f3 b hb).1.2.2.2.1, (f3 b hb).1.2.1, (f3 b hb).1.2.2.2.2.1, (f3 b hb).1.2.2.2.2.2⟩
      have nC : H5 ce.locals = none := I6.free
      obtain ⟨m, hn, _⟩ := I6.loc
      exact ⟨m, hn, fun h2 sb => fin D ce.locals s6 m H5 I7 qq hn (I3.fpOk (by rw [cL]; exact Nat.le_refl _) nC) h2 sb⟩
    · refine mono_q (T.item (blkH X s3 H3 scope ce fp) rfl rfl rfl hcB i [] s5 _ H5 _ I5 (fpo I5 n5) st5 go) fun r s6 ⟨u, er, h6⟩ => ?_
      subst er
      refine mono_q h6 fun _ s7 ⟨x, H7, I7, r7, y7, st7, n7⟩ => ?_
      have P7 := I7.pinned (fpo I7 n7) (T.obj _ _ st7)
      refine wpAny_mono (pg.run _ s7 _ H7 x u _ P7 r7 (step x H7 y7)) (fun _ s8 ⟨σ8, H8, I8, hw8, q8⟩ => ?_) (fun _ _ z => z.elim)
      refine wpAny_mono (pt.run _ s8 σ8 H8 _ I8 q8) (fun b s9 ⟨H9, I9, q9⟩ => ?_) (fun _ _ z => z.elim)
      have nxt : ∀ {sN : Shared} {HN : Hp}, Inv (blkH X s3 H3 scope ce fp) ([] ++ pinsAt fp s7.heap) σ8 HN sN → Nx HN → ∃ m, m < n ∧ ∃ i H6, Inv (blkH X s3 H3 scope ce fp) [] (wipe σ (own.map (·.2))) H6 sN ∧ tn i sN.heap ∧ (∀ b ∈ fp, H6 b = none) ∧ V i m H6 := fun {sN HN} JN nx => by
        obtain ⟨m2, lt, v2⟩ := hNx HN nx
        have kp : ∀ b ∈ fp, ∀ o, s7.heap.get? b = some o → sN.heap.get? b = some o ∧ HN b = none := fun b hb o e =>
          ⟨(JN.pin (b, o) (List.mem_append_right _ (List.mem_append_right _ (mem_pinsAt hb e)))).1, (JN.pin (b, o) (List.mem_append_right _ (List.mem_append_right _ (mem_pinsAt hb e)))).2.1⟩
        refine ⟨m2, lt, i + 1, HN, (JN.unpinned (pins := [])).weak (by rw [← hw8, wipe_length]) (fun j w e => ?_), T.keep _ _ _ st7 fun b hb o e => (kp b hb o e).1, fun b hb => ?_, v2⟩
        · rw [← hw8] at e
          exact (wipe_some e).1
        · obtain ⟨o, e, _⟩ := T.obj _ _ st7 b hb
          exact (kp b hb o e).2
      cases b with
      | false => exact nxt I9 (by simpa using q9)
      | true =>
        refine wpAny_mono (pe.run _ s9 σ8 H9 _ I9 (by simpa using q9)) (fun z s10 hz => ?_) (fun _ _ z => z.elim)
        obtain ⟨yv, H10, I10, r10, acc, a1, a2, a3⟩ := hz
        exact app_ok (X := blkH X s3 H3 scope ce fp) I10 a1 a2 r10 fun s11 I11 => nxt I11 a3
  exact codeAny_compStart_list loop (T.self X.A 0 _ _ _ st4 loop)
end
section
variable {X : Cx} {c : Ctx} {W : WX} {elt tg iter e : Expr} {ifs : List Expr} {scope : Scope} {own : List (Str × Nat)} {pos : Pos} {pt : Pt} {g : TG} {it : MI} {t : MT} {f : ME}
theorem e_lcH (k : Bool) (hot : L2H.HotC X) (hp : PtOk c (own.map (·.2)) pt g) (hN : X.N.Nodup) (hi : L2H.PIH X tg iter (tMI c W it)) (ok : BlkOk X.N X.env.scope scope own)
    (hg : ∀ (s : Shared) (H : Hp) (C : Addr) (cl : List (Str × Addr)) (fp : List Addr), PG (blkH X s H scope (compEnvC scope cl C X.env) fp) tg g)
    (ht : ∀ (s : Shared) (H : Hp) (C : Addr) (cl : List (Str × Addr)) (fp : List Addr), PTs (blkH X s H scope (compEnvC scope cl C X.env) fp) ifs (tT c W0 t))
    (he : ∀ (s : Shared) (H : Hp) (C : Addr) (cl : List (Str × Addr)) (fp : List Addr), PE (blkH X s H scope (compEnvC scope cl C X.env) fp) elt (tM c W0 f)) (fold : ∀ x, foldedSetIterable iter X.env x = pure x := by intro _; rfl) :
    PE X (.ListComp elt [⟨tg, iter, ifs, 0⟩] scope pos) (tM c W (mLc k (own.map (·.2)) pt it t f)) :=
  pe_imp ⟨fun pins s σ H Q I h => by
    rw [eval_ListComp]
    exact lcH_core hot hN I hi ok hg ht he fold h fun D C s2 m H2 I2 q hn fo => by
      intro h2 sb
      obtain ⟨f0, f1, f2, f3, f4, f5⟩ := fo
      exact ⟨.ref D, H2, I2.turned (t' := s2.toks) (fun b o hb eb => (sb.2 b hb).trans eb) f0 f1 f3 f4 f5, rfl, q⟩⟩ (entail_lc hp)
end
end Am
/-! ### Am: within an except suite: a zip one of whose lists is empty -/
namespace PySem
open PySem.Spec PyProof.Rows
section
variable {prog : Program} {w : World} {A : Around} {E : Value → Shared → Prop} {s : Shared}
theorem zh_list_end {jt la x1 : Addr} {i : Nat} {its : Array Value} {Q : Value → Shared → Prop} (hot : HotX.HotAt A x1 s.heap) (ji : s.heap.IsListIter jt la i) (ls : s.heap.IsList la its) (gone : its[i]? = none) (nx : x1 ≠ jt)
    (out : ∀ h2 e, (∀ b ob, b ≠ jt → s.heap.get? b = some ob → h2.get? b = some ob) → (∃ ob, h2.get? e = some ob ∧ ob.cls = .type "StopIteration") → E (.ref e) { s with heap := h2 }) :
    wpAny (model prog w) A (Builtin.SmallTypes.nextOf (.ref jt)) Q E s := by
  obtain ⟨hh, o1, vs1, g1, d1, c1⟩ := hot
  obtain ⟨oi, gi, _, di⟩ := id ji
  obtain ⟨ol, gl, _, nl, dl⟩ := ls
  unfold Builtin.SmallTypes.nextOf; refine wpAny_bind (wpAny_callSpecial?_slot (name := Str.ofString "__next__") ji.typeIs slot_listiter_next (wpAny_call_entry slot_listiter_next ji.typeIs entry_listiter_next ?_ (args_listiter_next _)))
  show wpAny (model prog w) _ (field (.ref jt) 0 >>= _) _ _ s
  refine wpAny_bind (wpAny_field gi di (x := .ref la) rfl ?_)
  show wpAny (model prog w) _ (if (Value.ref la == Value.none) = true then _ else _) _ _ s
  rw [if_neg (show ¬ ((Value.ref la == Value.none) = true) from Bool.false_ne_true)]
  show wpAny (model prog w) _ (field (.ref jt) 1 >>= _) _ _ s
  refine wpAny_bind (wpAny_field gi di (x := .int i 0) rfl ?_)
  show wpAny (model prog w) _ (seqItems? (.ref la) >>= _) _ _ s
  refine wpAny_bind (wpAny_seqItems gl dl ?_)
  simp only [Int.toNat_natCast, gone]
  refine wpAny_bind (wpAny_rule (wpAny_bind (wpAny_setField gi di (by simp) ?_)))
  show wpAny (model prog w) _ (newExc (.type "StopIteration") [] >>= _) _ _ _
  refine wpAny_bind ?_
  simp only [newExc, newTuple]; refine wpAny_bind (wpAny_newObj_type ?_ (by size_fits)); refine wpAny_bind (m := firstArgMember _ _) (wpAny_of_eq (a := Value.none) (by first | rfl | (simp only [firstArgMember]; rfl)) ?_); refine wpAny_newObj_type ?_ (by size_fits)
  have k1 : (s.heap.update jt (Obj.mapFields (·.setIfInBounds 0 .none))).get? x1 = some o1 := (Heap.get?_update_other _ _ (Ne.symm nx)).trans g1
  refine HotX.raiseNew_hot ⟨hh, o1, vs1, Heap.get?_push_of_some _ (Heap.get?_push_of_some _ k1), d1, c1⟩ (Nat.ne_of_lt (Heap.lt_size (Heap.get?_push_of_some _ k1))) (Heap.get?_push_size _ rfl) rfl (by first | (simp; done) | (simp; omega) | (simp only [Array.size_append]; simp; omega)) ?_
  refine out _ _ (fun b ob nb g => ?_) ⟨_, Heap.get?_update_self _ (Heap.get?_push_size _ rfl) rfl, rfl⟩
  have k2 : (s.heap.update jt (Obj.mapFields (·.setIfInBounds 0 .none))).get? b = some ob := (Heap.get?_update_other _ _ (Ne.symm nb)).trans g
  rw [Heap.get?_update_other _ _ (Nat.ne_of_gt (Heap.lt_size (Heap.get?_push_of_some _ k2)))]
  exact Heap.get?_push_of_some _ (Heap.get?_push_of_some _ k2)
/-- zip(..).__next__ where the second list has no item at its place, or the first none -/
theorem zh_next_end {zz TI TO ia ib la lb x1 : Addr} {ka kb : Nat} {as bs : Array Value} {ua ub : Value} {Q : Fin → Shared → Prop} (hot : HotX.HotAt A x1 s.heap) (D : ZipApart zz TI TO ia ib la lb) (n1 : x1 ≠ zz) (n2 : x1 ≠ TO) (n3 : x1 ≠ ia) (n4 : x1 ≠ ib)
    (gz : IsZip s.heap zz TI TO .none) (gI : IsPair s.heap TI (.ref ia) (.ref ib)) (gO : IsPair s.heap TO ua ub)
    (ja : s.heap.IsListIter ia la ka) (jb : s.heap.IsListIter ib lb kb) (pa : s.heap.IsList la as) (pb : s.heap.IsList lb bs) (fin : as[ka]? = none ∨ bs[kb]? = none)
    (out : ∀ h2 e, (∀ b ob, b ≠ zz → b ≠ TO → b ≠ ia → b ≠ ib → s.heap.get? b = some ob → h2.get? b = some ob) → (∃ ob, h2.get? e = some ob ∧ ob.cls = .type "StopIteration") → E (.ref e) { s with heap := h2 }) :
    wpAny (model prog w) A (Builtin.«zip.__next__» ⟨[.ref zz], []⟩) Q E s := by
  show wpAny (model prog w) _ (field (.ref zz) 2 >>= _) _ _ _
  refine wpAny_bind (wpAny_field gz rfl (x := .bool false) rfl ?_)
  show wpAny (model prog w) _ (field (.ref zz) 3 >>= _) _ _ _
  refine wpAny_bind (wpAny_field gz rfl (x := .ref TI) rfl ?_)
  refine wpAny_bind (wpAny_seqItems gI rfl ?_)
  show wpAny (model prog w) _ (Builtin.SmallTypes.ownedTupleIsFree (.ref zz) >>= _) _ _ _
  refine wpAny_bind ?_
  unfold Builtin.SmallTypes.ownedTupleIsFree; refine wpAny_bind (wpAny_field gz rfl (x := .none) rfl (wpAny_pure ?_))
  simp only [if_true]
  refine wpAny_bind (wpAny_rule ?_)
  refine wpAny_bind (wpAny_field gz rfl (x := .ref TO) rfl ?_)
  refine wpAny_bind (wpAny_setField_rec gz (by simp) fun h1 gz1 t1 => ?_)
  have gz1 : IsZip h1 zz TI TO .ellipsis := gz1
  have hot1 : HotX.HotAt A x1 h1 := by
    obtain ⟨hh, o1, v1, g1, r⟩ := hot
    exact ⟨hh, o1, v1, (t1.2 _ n1).trans g1, r⟩
  refine wpAny_bind ?_
  simp only [List.zipIdx_cons, List.zipIdx_nil, List.forIn_cons, List.forIn_nil]; refine wpAny_bind (wpAny_bind (wpAny_onRaise ?_))
  show wpAny (model prog w) _ (Builtin.SmallTypes.nextOf (.ref ia) >>= _) _ _ _
  cases fa : as[ka]? with
  | none =>
    refine wpAny_bind (zh_list_end (s := { s with heap := h1 }) (x1 := x1) hot1 (ja.extBut t1.extBut D.i1z) (pa.extBut t1.extBut D.l1z) fa n3 fun h2 e t2 he => ?_)
    obtain ⟨oe, ge, ce⟩ := he
    have gz2 : IsZip h2 zz TI TO .ellipsis := t2 _ _ D.i1z.symm gz1
    have ez : e ≠ zz := fun q => by subst q; rw [gz2] at ge; cases ge; simp at ce
    exact wpAny_setField_rec gz2 (by simp) fun h3 _ t3 => out h3 e (fun b ob c1 _ c3 _ q => t3.extBut _ _ c1 (t2 _ _ c3 (t1.extBut _ _ c1 q))) ⟨oe, t3.extBut _ _ ez ge, ce⟩
  | some xa =>
    have fb : bs[kb]? = none := fin.resolve_left fun q => by rw [fa] at q; cases q
    refine wpAny_bind (wpAny_nextOf_list_item (ja.extBut t1.extBut D.i1z) (pa.extBut t1.extBut D.l1z) fa fun h2 ja2 t2 => wpAny_pure ?_)
    have gO2 : IsPair h2 TO ua ub := t2.extBut _ _ D.TOi1 (t1.extBut _ _ D.TOz gO)
    refine wpAny_bind (wpAny_seqItems gO2 rfl ?_)
    refine wpAny_bind (wpAny_updateSeq_pair gO2 fun h3 gO3 t3 => ?_)
    refine wpAny_bind (wpAny_letGo (wpAny_pure ?_))
    refine wpAny_bind (wpAny_bind (wpAny_onRaise ?_))
    show wpAny (model prog w) _ (Builtin.SmallTypes.nextOf (.ref ib) >>= _) _ _ _
    have hot3 : HotX.HotAt A x1 h3 := by
      obtain ⟨hh, o1, v1, g1, r⟩ := hot1
      exact ⟨hh, o1, v1, (t3.2 _ n2).trans ((t2.2 _ n3).trans g1), r⟩
    refine wpAny_bind (zh_list_end (s := { s with heap := h3 }) (x1 := x1) hot3 (((jb.extBut t1.extBut D.i2z).extBut t2.extBut D.i12.symm).extBut t3.extBut D.TOi2.symm)
      (((pb.extBut t1.extBut D.l2z).extBut t2.extBut D.l2i1).extBut t3.extBut D.l2TO) fb n4 fun h4 e t4 he => ?_)
    obtain ⟨oe, ge, ce⟩ := he
    have gz4 : IsZip h4 zz TI TO .ellipsis := t4 _ _ D.i2z.symm (t3.extBut _ _ D.TOz.symm (t2.extBut _ _ D.i1z.symm gz1))
    have ez : e ≠ zz := fun q => by subst q; rw [gz4] at ge; cases ge; simp at ce
    exact wpAny_setField_rec gz4 (by simp) fun h5 _ t5 => out h5 e (fun b ob c1 c2 c3 c4 q => t5.extBut _ _ c1 (t4 _ _ c4 (t3.extBut _ _ c2 (t2.extBut _ _ c3 (t1.extBut _ _ c1 q))))) ⟨oe, t5.extBut _ _ ez ge, ce⟩
theorem zh_zip_end {zz TI TO ia ib la lb x1 : Addr} {ka kb : Nat} {as bs : Array Value} {ua ub : Value} {Q : Option Value → Shared → Prop} (hot : HotX.HotAt A x1 s.heap) (D : ZipApart zz TI TO ia ib la lb) (n1 : x1 ≠ zz) (n2 : x1 ≠ TO) (n3 : x1 ≠ ia) (n4 : x1 ≠ ib)
    (gz : IsZip s.heap zz TI TO .none) (gI : IsPair s.heap TI (.ref ia) (.ref ib)) (gO : IsPair s.heap TO ua ub)
    (ja : s.heap.IsListIter ia la ka) (jb : s.heap.IsListIter ib lb kb) (pa : s.heap.IsList la as) (pb : s.heap.IsList lb bs) (fin : as[ka]? = none ∨ bs[kb]? = none)
    (out : ∀ h2, (∀ b ob, b ≠ zz → b ≠ TO → b ≠ ia → b ≠ ib → s.heap.get? b = some ob → h2.get? b = some ob) → Q none { s with heap := h2 }) : wpAny (model prog w) A (pyNext (.ref zz)) Q E s := by
  have ty : s.TypeIs (.ref zz) "zip" := ⟨_, gz, rfl⟩
  unfold pyNext; refine wpAny_bind (wpAny_attempt (wpAny_callSpecial?_slot (name := Str.ofString "__next__") ty F.slot_zip_next (wpAny_call_entry F.slot_zip_next ty F.entry_zip_next (zh_next_end (A := A.in1) hot D n1 n2 n3 n4 gz gI gO ja jb pa pb fin fun h2 e kp he => ?_) (F.args_zip_next_1 _))))
  obtain ⟨ob, go, cl⟩ := he
  refine wpAny_bind (wpAny_isInstance (T := "StopIteration") (b := true) ⟨ob, go, cl⟩ isSubtype_stop (wpAny_pure (out _ kp)))
end
end PySem
/-! ### Am: within an except suite: loops over a zip one of whose lists is empty -/
namespace Am
open PySem PySem.Spec PyProof.Rows L2
def It0 (K : PySem.W.Frag) (a b : Addr) : It := ⟨fun _ _ => False, fun _ _ _ _ => False, fun _ H => ∃ xs ys : List V, SqL K H a xs ∧ SqL K H b ys ∧ (xs = [] ∨ ys = [])⟩
theorem turn_zip0 {P : Program} {w : World} {K : PySem.W.Frag} {elts : List Expr} {kk : Nat} {tpos : Pos} {a b zz TI TO ia ib : Addr} (D : ZipApart zz TI TO ia ib a b) :
    L2H.TurnH P w K (.Tuple elts kk tpos) (It0 K a b) [zz, TI, TO, ia, ib] zz (fun _ h => IsZip h zz TI TO .none ∧ IsPair h TI (.ref ia) (.ref ib) ∧ (∃ x y, IsPair h TO x y) ∧ h.IsListIter ia a 0 ∧ h.IsListIter ib b 0) where
  mem := List.mem_cons_self
  obj := fun _ h ⟨gz, gI, ⟨x, y, gO⟩, ⟨o1, e1, _, d1⟩, ⟨o2, e2, _, d2⟩⟩ q hq => by
    have : q = zz ∨ q = TI ∨ q = TO ∨ q = ia ∨ q = ib := by simpa using hq
    rcases this with z | z | z | z | z
    · subst z; exact ⟨_, gz, fun v q => nomatch q⟩
    · subst z; exact ⟨_, gI, fun v q => nomatch q⟩
    · subst z; exact ⟨_, gO, fun v q => nomatch q⟩
    · exact ⟨o1, by rw [z]; exact e1, fun v q => by rw [d1] at q; cases q⟩
    · exact ⟨o2, by rw [z]; exact e2, fun v q => by rw [d2] at q; cases q⟩
  keep := fun _ h h' ⟨gz, gI, ⟨x, y, gO⟩, j1, j2⟩ k =>
    ⟨k zz (by simp) _ gz, k TI (by simp) _ gI, ⟨x, y, k TO (by simp) _ gO⟩, j1.at fun o q => k ia (by simp) o q, j2.at fun o q => k ib (by simp) o q⟩
  item := fun _ _ _ _ _ _ _ _ _ _ _ _ _ _ go => go.elim
  done := by
    intro X e1 e2 e3 hc i pins s σ H E I hf st stop
    subst e1 e2 e3
    obtain ⟨gz, gI, ⟨x, y, gO⟩, j1, j2⟩ := st
    obtain ⟨xs, ys, sx, sy, emp⟩ := stop
    obtain ⟨its, r1, p1, _⟩ := I.list sx
    obtain ⟨its2, r2, p2, _⟩ := I.list sy
    obtain ⟨p, ⟨hh, v1, d1, c1⟩, hp⟩ := hc
    have far : ∀ q ∈ [zz, TI, TO, ia, ib], p.1 ≠ q := fun q hq => (hf q hq).2.2.2.2.2 p (List.mem_append_left _ hp)
    have l1 := r1.length
    have l2 := r2.length
    have he : its.toArray[0]? = none ∨ its2.toArray[0]? = none := by
      rcases emp with q | q
      · exact .inl (by rw [q] at l1; simp at l1; simp [← l1])
      · exact .inr (by rw [q] at l2; simp at l2; simp [← l2])
    exact zh_zip_end (x1 := p.1) ⟨hh, p.2, v1, (I.pin p (List.mem_append_left _ hp)).1, d1, c1⟩ D (far zz (by simp)) (far TO (by simp)) (far ia (by simp)) (far ib (by simp)) gz gI gO j1 j2 p1.isList p2.isList he fun h2 kp =>
      ⟨rfl, I.turnedL (t' := s.toks) (ch := [zz, TI, TO, ia, ib]) (fun c o nc q => kp c o (fun z => nc (by simp [z])) (fun z => nc (by simp [z])) (fun z => nc (by simp [z])) (fun z => nc (by simp [z])) q) hf⟩
  self := fun A i s Q E st h => wpAny_pyIter_zip st.1 h
def iZip0 (K : PySem.W.Frag) (ta : TA) : TI := fun σ H R => ta σ H fun vs H1 => ∃ a b xs ys, vs = [.ref a, .ref b] ∧ SqL K H1 a xs ∧ SqL K H1 b ys ∧ R (It0 K a b) H1
section
variable {X : Cx} {c : Ctx} {W : WX} {e e2 : Expr} {ta : TA} {fs : MA} {p pos tpos : Pos} {elts : List Expr} {kk : Nat}
theorem pih_zip0 (hgl : Gl X "zip") (hm : X.mg "zip" = none) (ha : PA X [e, e2] ta) (hs : starEach [e, e2] X.env = (false, eval e X.env) :: starEach [e2] X.env := by rfl) (hpl : (backTo pos (starEach [e2] X.env)).any (·.1) = false := by rfl) :
    L2H.PIH X (.Tuple elts kk tpos) (.Call (.Name "zip" p) [e, e2] [] pos) (iZip0 X.K ta) where
  run := fun pins s σ H R I h => Call_ (ld_blt I hgl hm PyProof.Rows.boot_zip (PyProof.Rows.callWith_type1 (thn (ha.run pos pins s σ H _ I h) fun us s1 ⟨vs, H1, I1, r1, a, b, xs, ys, ev, sx, sy, q⟩ => by
    subst ev
    cases r1 with
    | cons ra rr =>
      cases rr with
      | cons rb rr =>
        cases rr
        cases ra
        cases rb
        obtain ⟨its, _, p1, _⟩ := I1.list sx
        obtain ⟨its2, _, p2, _⟩ := I1.list sy
        refine call_zip_2 p1.isList p2.isList fun h2 gz gI gO j1 j2 sz kp => wpAny_pyIter_zip gz ?_
        have I2 : Inv X pins σ H1 { s1 with heap := h2 } := I1.kept (t' := s1.toks) kp
        refine ⟨s1.heap.objs.size + 4, [s1.heap.objs.size + 4, s1.heap.objs.size + 2, s1.heap.objs.size + 3, s1.heap.objs.size, s1.heap.objs.size + 1], _, It0 X.K a b, H1, rfl, I2, turn_zip0 (PySem.W.ktu_apart s1.heap.objs.size a b p1.lt p2.lt), ⟨gz, gI, ⟨_, _, gO⟩, j1, j2⟩, fun q hq => ?_, q⟩
        have up : s1.heap.objs.size ≤ q := by
          have : q = s1.heap.objs.size + 4 ∨ q = s1.heap.objs.size + 2 ∨ q = s1.heap.objs.size + 3 ∨ q = s1.heap.objs.size ∨ q = s1.heap.objs.size + 1 := by simpa using hq
          rcases this with z | z | z | z | z <;> rw [z] <;> first | exact Nat.le_refl _ | exact Nat.le_add_right _ _
        exact I1.fpOk up (I1.hok.fresh up)) hs hpl))
/-- zip(xs, ys) where one has no items -/
def iZip0M (fs : MA) : MI := fun σ st => (fs σ st).bind fun as st1 => match as with
  | [x, y] => match viewS st1 x, viewS st1 y with
    | some xs, some ys => if xs = [] ∨ ys = [] then .ok ⟨[], fun s => viewS s x = some xs ∧ viewS s y = some ys⟩ st1 else .no
    | _, _ => .no
  | _ => .no
theorem i_zip0H (hm : c.mg "zip" = none) (ha : PA X [e, e2] (tMA c W fs)) (hgl : Gl X "zip" := by rfl) (F : Fits X c := by exact ⟨rfl, rfl⟩) (hs : starEach [e, e2] X.env = (false, eval e X.env) :: starEach [e2] X.env := by rfl) (hpl : (backTo pos (starEach [e2] X.env)).any (·.1) = false := by rfl) :
    L2H.PIH X (.Tuple elts kk tpos) (.Call (.Name "zip" p) [e, e2] [] pos) (tMI c W (iZip0M fs)) :=
  pih_imp (pih_zip0 hgl (F.mg ▸ hm) ha hs hpl) fun σ H R ⟨w, σa, st, rl, q⟩ => ⟨w, σa, st, rl, q.bind fun vs as st1 w1 H1 _ rl1 rs p1 => by
    split at p1
    · rename_i x y
      obtain ⟨vx, vy, rfl, rx, ry⟩ := pr2 rs
      split at p1
      · rename_i xs ys hx hy
        split at p1
        · rename_i emp
          obtain ⟨a, us, rfl, q1, pr1⟩ := viewS_ok rl1.rs rx hx
          obtain ⟨b, ts, rfl, q2, pr2⟩ := viewS_ok rl1.rs ry hy
          rw [F.K]
          refine ⟨a, b, us, ts, rfl, q1, q2, p1.here rl1 fun w2 st2 H2 e2 rs2 ok => ⟨?_, fun i z hz => by cases hz⟩⟩
          obtain ⟨a', us', e', q1', pr1'⟩ := viewS_ok rs2 (rx.ext e2) ok.1
          cases e'
          obtain ⟨b', ts', e', q2', pr2'⟩ := viewS_ok rs2 (ry.ext e2) ok.2
          cases e'
          refine ⟨us', ts', q1', q2', emp.imp (fun z => ?_) (fun z => ?_)⟩
          · have := pr1'.length
            rw [z] at this
            exact List.eq_nil_of_length_eq_zero this
          · have := pr2'.length
            rw [z] at this
            exact List.eq_nil_of_length_eq_zero this
        · exact p1.elim
      · exact p1.elim
    · exact p1.elim⟩
end
section
variable {X : Cx} {c : Ctx} {W : WX} {o i : Expr} {fo fi : ME} {n : Nat} {pos : Pos}
theorem set_allH (hr : L2H.RoomH n X.A) : PSet X rSetAll := by
  intro pins s σ H o i v ov iv u Q I ro ri rv h
  rcases h with h | ⟨a, H', rfl, g, q⟩
  · exact set_list pins s σ H o i v ov iv u Q I ro ri rv h
  · obtain rfl : ov = Value.ref a := ro
    exact d_setItem (by have := hr.un; omega) I g ri rv fun s4 I4 => ⟨H', I4, q⟩
theorem g_subH (hr : L2H.RoomH n X.A) (ho : PE X o (tM c W fo)) (hi : PE X i (tM c W fi))
    (ha : ∀ v, assign (.Subscript o i pos) X.env v = (do
      let ov ← holding [v] (eval o X.env)
      let iv ← holding [v, ov] (eval i X.env)
      standAt pos
      holding [v, ov, iv] (setItem ov iv v)
      release [v, ov, iv] []) := by intro _; rfl) : PG X (.Subscript o i pos) (tMG c (kSub fo fi)) :=
  ⟨fun pins s σ H v u Q I r ⟨w, σa, st, a, rl, ra, p⟩ => (pg_sub ho hi (set_allH hr) ha).run pins s σ H v u Q I r (by
    unfold kSub at p
    cases h1 : fo σa st with
    | no => rw [h1] at p; exact p.elim
    | ex _ _ => rw [h1] at p; exact p.elim
    | ok y st1 =>
      rw [h1] at p
      refine ⟨w, σa, st, rl, ?_⟩
      rw [h1]
      intro vo w1 H1 e1 rl1 r1
      have p : PostG c w st.length Q (match fi σa st1 with | .ok i st2 => (match gSet y i a st2 with | some st3 => some (σa, st3) | none => none) | _ => none) := p
      cases h2 : fi σa st1 with
      | no => rw [h2] at p; exact p.elim
      | ex _ _ => rw [h2] at p; exact p.elim
      | ok j st2 =>
        rw [h2] at p
        refine ⟨w1, σa, st1, rl1, ?_⟩
        rw [h2]
        intro vi w2 H2 e2 rl2 r2
        have p : PostG c w st.length Q (match gSet y j a st2 with | some st3 => some (σa, st3) | none => none) := p
        cases h3 : gSet y j a st2 with
        | none => rw [h3] at p; exact p.elim
        | some st3 =>
          rw [h3] at p
          exact gSet_ok rl2 (r1.ext e2) r2 ((ra.ext e1).ext e2) h3 fun H3 e3 rl3 => p _ w2 H3 ((e1.trans e2).trans e3) rl3)⟩
def kNo : MG := fun _ _ _ => none
theorem g_no {tg : Expr} : PG X tg (tMG c kNo) := ⟨fun _ _ _ _ _ _ _ _ _ ⟨_, _, _, _, _, _, h⟩ => h.elim⟩
theorem pss_no {ss : List Stmt} : PSs X ss (tMS c W mNo) := ⟨fun _ _ _ _ _ _ ⟨_, _, _, _, h⟩ => h.elim⟩
end
section
variable {X : Cx} {c : Ctx} {W : WX} {a b : Expr} {fa fb : ME} {k : Nat} {pos : Pos}
theorem op_eqH (hr : L2H.RoomH k X.A) (F : Fits X c) : OpR X (compareOp .Eq) (rEqN c.K false) := by rw [← F.K]; exact op_eqD (by have := hr.un; omega)
theorem op_neH (hr : L2H.RoomH k X.A) (F : Fits X c) : OpR X (compareOp .NotEq) (rEqN c.K true) := by rw [← F.K]; exact op_neD (by have := hr.un; omega)
theorem e_eqH (hr : L2H.RoomH k X.A) (ha : PE X a (tM c W fa)) (hb : PE X b (tM c W fb)) (F : Fits X c := by exact ⟨rfl, rfl⟩) : PE X (.Compare a [.Eq] [b] pos) (tM c W (mBin (gEq false) fa fb)) := e_cmp (op_eqH hr F) (gEq_ok _) ha hb (nomark _)
theorem t_eqH (hr : L2H.RoomH k X.A) (ha : PE X a (tM c W fa)) (hb : PE X b (tM c W fb)) (F : Fits X c := by exact ⟨rfl, rfl⟩) : PT X (.Compare a [.Eq] [b] pos) (tT c W (mTst (mBin (gEq false) fa fb))) := t_cmp (op_eqH hr F) (gEq_ok _) ha hb (nomark _)
theorem e_neH (hr : L2H.RoomH k X.A) (ha : PE X a (tM c W fa)) (hb : PE X b (tM c W fb)) (F : Fits X c := by exact ⟨rfl, rfl⟩) : PE X (.Compare a [.NotEq] [b] pos) (tM c W (mBin (gEq true) fa fb)) := e_cmp (op_neH hr F) (gEq_ok _) ha hb (nomark _)
theorem t_neH (hr : L2H.RoomH k X.A) (ha : PE X a (tM c W fa)) (hb : PE X b (tM c W fb)) (F : Fits X c := by exact ⟨rfl, rfl⟩) : PT X (.Compare a [.NotEq] [b] pos) (tT c W (mTst (mBin (gEq true) fa fb))) := t_cmp (op_neH hr F) (gEq_ok _) ha hb (nomark _)
theorem e_ixH (hr : L2H.RoomH k X.A) (ha : PE X a (tM c W fa)) (hb : PE X b (tM c W fb)) (hs : PlainIx b := by exact fun _ _ => rfl) (F : Fits X c := by exact ⟨rfl, rfl⟩) : PE X (.Subscript a b pos) (tM c W (mBin gIx fa fb)) :=
  pe_imp (pe_ix (by rw [← F.K]; exact OpR.orIx ix_seq (ix_dict (by have := hr.un; omega))) ha hb hs) (entail_op gIx_ok)
end
end Am
namespace Lw
open PySem PySem.Spec PyProof.Rows L2 Rw Fld
section
variable {P : Program} {w : World} {K : PySem.W.Frag} {mg : Str → Option Value} {base : Heap}
def topS (i : Nat) : Stmt := PySem.Challenge.pw_rotward_k02_operations_and_errors.main.body.getD i (.Pass ⟨0, 0, 0, 0⟩)
def tabF : List (Str × Str) := [("Disks", "_fuse"), ("Disks", "_losses"), ("Disks", "_media"), ("Disks", "_powered"), ("Disks", "_reads"), ("Disks", "_sizes"), ("Disks", "_syncs"), ("Disks", "_there"), ("Disks", "_waiting"), ("Disks", "_writes"), ("Disks", "formatted"), ("Disks", "in_use"), ("Disks", "scrub_place")]
def isF : Str → Str → Bool := fun x f => tabF.contains (x, f)
def tabE : List ((Str × Str) × Bool) := [(("InvalidArgument", "InvalidArgument"), true), (("InvalidArgument", "PowerOff"), false), (("PowerOff", "InvalidArgument"), false), (("PowerOff", "PowerOff"), true), (("RotError", "InvalidArgument"), false), (("RotError", "PowerOff"), false)]
def isE : Str → Str → Option Bool := fun x y => tabE.lookup (x, y)
def tabK : List ((Str × Str) × Bool) := [(("InvalidArgument", "RotError"), true), (("InvalidArgument", "ValueError"), true), (("PowerOff", "RotError"), true), (("PowerOff", "ValueError"), true), (("RotError", "RotError"), true), (("RotError", "ValueError"), true)]
def isK : Str → Str → Option Bool := fun x y => tabK.lookup (x, y)
structure Txt (K : PySem.W.Frag) (mg : Str → Option Value) : Prop where
  x_RotError : Am.ExcT K mg "RotError"
  x_InvalidArgument : Am.ExcT K mg "InvalidArgument"
  x_PowerOff : Am.ExcT K mg "PowerOff"
  mk_Disks : Am.MkC K mg "Disks"
  Disks___init__ : Am.DefM K mg "Disks" "__init__" "Disks.__init__" (inClass (topS 7) 0) ["self", "disks", "sectors", "carrying", "depth"]
  Disks_sizes : Am.DefM K mg "Disks" "sizes" "Disks.sizes" (inClass (topS 7) 1) ["self"]
  Disks_counts : Am.DefM K mg "Disks" "counts" "Disks.counts" (inClass (topS 7) 2) ["self"]
  Disks_is_on : Am.DefM K mg "Disks" "is_on" "Disks.is_on" (inClass (topS 7) 3) ["self"]
  Disks_losses : Am.DefM K mg "Disks" "losses" "Disks.losses" (inClass (topS 7) 4) ["self"]
  Disks_is_there : Am.DefM K mg "Disks" "is_there" "Disks.is_there" (inClass (topS 7) 5) ["self", "disk"]
  Disks_cell : Am.DefM K mg "Disks" "cell" "Disks.cell" (inClass (topS 7) 6) ["self", "disk", "sector"]
  Disks_pending : Am.DefM K mg "Disks" "pending" "Disks.pending" (inClass (topS 7) 7) ["self", "disk"]
  Disks_ask : Am.DefM K mg "Disks" "ask" "Disks.ask" (inClass (topS 7) 8) ["self", "disk", "sector"]
  Disks__fail : Am.DefM K mg "Disks" "_fail" "Disks._fail" (inClass (topS 7) 9) ["self"]
  Disks__operation : Am.DefM K mg "Disks" "_operation" "Disks._operation" (inClass (topS 7) 10) ["self"]
  Disks__lay : Am.DefM K mg "Disks" "_lay" "Disks._lay" (inClass (topS 7) 11) ["self", "disk", "kept"]
  Disks_write : Am.DefM K mg "Disks" "write" "Disks.write" (inClass (topS 7) 12) ["self", "disk", "sector", "data"]
  Disks_sync : Am.DefM K mg "Disks" "sync" "Disks.sync" (inClass (topS 7) 13) ["self"]
  Disks_rot : Am.DefM K mg "Disks" "rot" "Disks.rot" (inClass (topS 7) 14) ["self", "disk", "sector", "data"]
  Disks_bad : Am.DefM K mg "Disks" "bad" "Disks.bad" (inClass (topS 7) 15) ["self", "disk", "sector"]
  Disks_away : Am.DefM K mg "Disks" "away" "Disks.away" (inClass (topS 7) 16) ["self", "disk"]
  Disks_blank : Am.DefM K mg "Disks" "blank" "Disks.blank" (inClass (topS 7) 17) ["self", "disk"]
  Disks_fail_after : Am.DefM K mg "Disks" "fail_after" "Disks.fail_after" (inClass (topS 7) 18) ["self", "operations"]
  Disks_power : Am.DefM K mg "Disks" "power" "Disks.power" (inClass (topS 7) 19) ["self", "kept"]
  fl : Am.FldT ⟨K, mg⟩ isF
  em : Am.ExmT ⟨K, mg⟩ isE
  ix : Am.IsxT ⟨K, mg⟩ isK
  b_ValueError : mg "ValueError" = none
  b_bool : mg "bool" = none
  b_int : mg "int" = none
  b_isinstance : mg "isinstance" = none
  b_len : mg "len" = none
  b_list : mg "list" = none
  b_min : mg "min" = none
  b_range : mg "range" = none
  b_reversed : mg "reversed" = none
  b_tuple : mg "tuple" = none
  b_zip : mg "zip" = none
  _wall : Def K mg "_wall" "_wall" (topS 0) ["k"]
  is_between : Def K mg "is_between" "is_between" (topS 6) ["value", "least", "greatest"]
  _law_draw : Def K mg "_law_draw" "_law_draw" (topS 9) ["_law_script", "_law_k"]
  _law_wrong : Def K mg "_law_wrong" "_law_wrong" (topS 10) ["_law_number"]
  _law_dark : Def K mg "_law_dark" "_law_dark" (topS 11) ["_law_disks"]
  _law_one : Def K mg "_law_one" "_law_one" (topS 12) ["_law_disks", "_law_counts", "_law_number"]
  law : Def K mg "law" "law" (topS 13) ["_law_script"]
theorem sc__wall : FnScope ["k"] ["k"] (defScope (topS 0)) := ⟨rfl, rfl, rfl, by decide +kernel, rfl, by decide +kernel, by decide +kernel⟩
theorem sc_is_between : FnScope ["value", "least", "greatest"] ["value", "least", "greatest"] (defScope (topS 6)) := ⟨rfl, rfl, rfl, by decide +kernel, rfl, by decide +kernel, by decide +kernel⟩
theorem sc__law_draw : FnScope ["_law_script", "_law_k", "_law_cell", "_law_turn", "_law_step"] ["_law_script", "_law_k"] (defScope (topS 9)) := ⟨rfl, rfl, rfl, by decide +kernel, rfl, by decide +kernel, by decide +kernel⟩
theorem sc__law_wrong : FnScope ["_law_number", "_law_wrong_here", "_law_disks", "_law_sectors", "_law_carrying", "_law_depth", "error", "_law_sizes"] ["_law_number"] (defScope (topS 10)) := ⟨rfl, rfl, rfl, by decide +kernel, rfl, by decide +kernel, by decide +kernel⟩
theorem sc__law_dark : FnScope ["_law_disks", "_law_told", "_law_kind", "error", "_law_k"] ["_law_disks"] (defScope (topS 11)) := ⟨rfl, rfl, rfl, by decide +kernel, rfl, by decide +kernel, by decide +kernel⟩
theorem sc__law_one : FnScope ["_law_disks", "_law_counts", "_law_number", "_law_disk", "_law_k"] ["_law_disks", "_law_counts", "_law_number"] (defScope (topS 12)) := ⟨rfl, rfl, rfl, by decide +kernel, rfl, by decide +kernel, by decide +kernel⟩
theorem sc_law : FnScope ["_law_script", "_law_disks", "_law_left", "_law_counts", "_law_k", "_law_number"] ["_law_script"] (defScope (topS 13)) := ⟨rfl, rfl, rfl, by decide +kernel, rfl, by decide +kernel, by decide +kernel⟩
theorem sc_Disks___init__ : FnScope ["self", "disks", "sectors", "carrying", "depth", "_"] ["self", "disks", "sectors", "carrying", "depth"] (defScope (inClass (topS 7) 0)) := ⟨rfl, rfl, rfl, by decide +kernel, rfl, by decide +kernel, by decide +kernel⟩
theorem sc_Disks_sizes : FnScope ["self"] ["self"] (defScope (inClass (topS 7) 1)) := ⟨rfl, rfl, rfl, by decide +kernel, rfl, by decide +kernel, by decide +kernel⟩
theorem sc_Disks_counts : FnScope ["self"] ["self"] (defScope (inClass (topS 7) 2)) := ⟨rfl, rfl, rfl, by decide +kernel, rfl, by decide +kernel, by decide +kernel⟩
theorem sc_Disks_is_on : FnScope ["self"] ["self"] (defScope (inClass (topS 7) 3)) := ⟨rfl, rfl, rfl, by decide +kernel, rfl, by decide +kernel, by decide +kernel⟩
theorem sc_Disks_losses : FnScope ["self"] ["self"] (defScope (inClass (topS 7) 4)) := ⟨rfl, rfl, rfl, by decide +kernel, rfl, by decide +kernel, by decide +kernel⟩
theorem sc_Disks_is_there : FnScope ["self", "disk"] ["self", "disk"] (defScope (inClass (topS 7) 5)) := ⟨rfl, rfl, rfl, by decide +kernel, rfl, by decide +kernel, by decide +kernel⟩
theorem sc_Disks_cell : FnScope ["self", "disk", "sector", "place", "data"] ["self", "disk", "sector"] (defScope (inClass (topS 7) 6)) := ⟨rfl, rfl, rfl, by decide +kernel, rfl, by decide +kernel, by decide +kernel⟩
theorem sc_Disks_pending : FnScope ["self", "disk"] ["self", "disk"] (defScope (inClass (topS 7) 7)) := ⟨rfl, rfl, rfl, by decide +kernel, rfl, by decide +kernel, by decide +kernel⟩
theorem sc_Disks_ask : FnScope ["self", "disk", "sector"] ["self", "disk", "sector"] (defScope (inClass (topS 7) 8)) := ⟨rfl, rfl, rfl, by decide +kernel, rfl, by decide +kernel, by decide +kernel⟩
theorem sc_Disks__fail : FnScope ["self"] ["self"] (defScope (inClass (topS 7) 9)) := ⟨rfl, rfl, rfl, by decide +kernel, rfl, by decide +kernel, by decide +kernel⟩
theorem sc_Disks__operation : FnScope ["self"] ["self"] (defScope (inClass (topS 7) 10)) := ⟨rfl, rfl, rfl, by decide +kernel, rfl, by decide +kernel, by decide +kernel⟩
theorem sc_Disks__lay : FnScope ["self", "disk", "kept", "sector", "data", "arrives"] ["self", "disk", "kept"] (defScope (inClass (topS 7) 11)) := ⟨rfl, rfl, rfl, by decide +kernel, rfl, by decide +kernel, by decide +kernel⟩
theorem sc_Disks_write : FnScope ["self", "disk", "sector", "data"] ["self", "disk", "sector", "data"] (defScope (inClass (topS 7) 12)) := ⟨rfl, rfl, rfl, by decide +kernel, rfl, by decide +kernel, by decide +kernel⟩
theorem sc_Disks_sync : FnScope ["self", "disk", "_"] ["self"] (defScope (inClass (topS 7) 13)) := ⟨rfl, rfl, rfl, by decide +kernel, rfl, by decide +kernel, by decide +kernel⟩
theorem sc_Disks_rot : FnScope ["self", "disk", "sector", "data"] ["self", "disk", "sector", "data"] (defScope (inClass (topS 7) 14)) := ⟨rfl, rfl, rfl, by decide +kernel, rfl, by decide +kernel, by decide +kernel⟩
theorem sc_Disks_bad : FnScope ["self", "disk", "sector"] ["self", "disk", "sector"] (defScope (inClass (topS 7) 15)) := ⟨rfl, rfl, rfl, by decide +kernel, rfl, by decide +kernel, by decide +kernel⟩
theorem sc_Disks_away : FnScope ["self", "disk"] ["self", "disk"] (defScope (inClass (topS 7) 16)) := ⟨rfl, rfl, rfl, by decide +kernel, rfl, by decide +kernel, by decide +kernel⟩
theorem sc_Disks_blank : FnScope ["self", "disk"] ["self", "disk"] (defScope (inClass (topS 7) 17)) := ⟨rfl, rfl, rfl, by decide +kernel, rfl, by decide +kernel, by decide +kernel⟩
theorem sc_Disks_fail_after : FnScope ["self", "operations"] ["self", "operations"] (defScope (inClass (topS 7) 18)) := ⟨rfl, rfl, rfl, by decide +kernel, rfl, by decide +kernel, by decide +kernel⟩
theorem sc_Disks_power : FnScope ["self", "kept", "disk", "told"] ["self", "kept"] (defScope (inClass (topS 7) 19)) := ⟨rfl, rfl, rfl, by decide +kernel, rfl, by decide +kernel, by decide +kernel⟩
end
end Lw
namespace Lw
open PySem PySem.Spec PyProof.Rows L2 Am
section
variable {P : Program} {w : World} {K : PySem.W.Frag} {mg : Str → Option Value} {base : Heap}
noncomputable def b__wall : MS := (mWhile (mTru (mC (.bl true)))
  mSkip)
noncomputable def m__wall : MF := mF 1 1 0 b__wall
theorem has__wall (T : Txt K mg) : Rw.Has P w K mg base (L2N.CX P w) 1 "_wall" ["k"] (spM ⟨K, mg⟩ m__wall) := by
  exact def_hasN (b := b__wall) 1 1 0 T._wall sc__wall rfl rfl (fun f cdv A outer s H E hr tk => (s_one (s_while (passes_of rfl) (t_tru e_bl)
  (s_one s_pass))))
noncomputable def b_Disks_sizes : MS := (mRet (mFld isF "_sizes" (mVar 0)))
noncomputable def m_Disks_sizes : MF := mF 1 1 0 b_Disks_sizes
theorem has_Disks_sizes (T : Txt K mg) : HasM P w K mg base (L2N.CX P w) 1 "Disks" "sizes" ["self"] (spM ⟨K, mg⟩ m_Disks_sizes) := by
  exact def_hasMN (b := b_Disks_sizes) 1 1 0 T.Disks_sizes sc_Disks_sizes rfl rfl (fun f cdv A outer s H E hr tk => (s_one (s_ret (e_fld T.fl (e_var (i := 0))))))
noncomputable def b_Disks_counts : MS := (mRet (mTup (mCons (mFld isF "_reads" (mVar 0)) (mCons (mFld isF "_writes" (mVar 0)) (mCons (mFld isF "_syncs" (mVar 0)) mNil)))))
noncomputable def m_Disks_counts : MF := mF 1 1 0 b_Disks_counts
theorem has_Disks_counts (T : Txt K mg) : HasM P w K mg base (L2N.CX P w) 1 "Disks" "counts" ["self"] (spM ⟨K, mg⟩ m_Disks_counts) := by
  exact def_hasMN (b := b_Disks_counts) 1 1 0 T.Disks_counts sc_Disks_counts rfl rfl (fun f cdv A outer s H E hr tk => (s_one (s_ret (e_tup (a_cons (e_fld T.fl (e_var (i := 0))) (a_cons (e_fld T.fl (e_var (i := 0))) (a_cons (e_fld T.fl (e_var (i := 0))) a_nil)))))))
noncomputable def b_Disks_is_on : MS := (mRet (mFld isF "_powered" (mVar 0)))
noncomputable def m_Disks_is_on : MF := mF 1 1 0 b_Disks_is_on
theorem has_Disks_is_on (T : Txt K mg) : HasM P w K mg base (L2N.CX P w) 1 "Disks" "is_on" ["self"] (spM ⟨K, mg⟩ m_Disks_is_on) := by
  exact def_hasMN (b := b_Disks_is_on) 1 1 0 T.Disks_is_on sc_Disks_is_on rfl rfl (fun f cdv A outer s H E hr tk => (s_one (s_ret (e_fld T.fl (e_var (i := 0))))))
noncomputable def b_Disks_losses : MS := (mRet (mFld isF "_losses" (mVar 0)))
noncomputable def m_Disks_losses : MF := mF 1 1 0 b_Disks_losses
theorem has_Disks_losses (T : Txt K mg) : HasM P w K mg base (L2N.CX P w) 1 "Disks" "losses" ["self"] (spM ⟨K, mg⟩ m_Disks_losses) := by
  exact def_hasMN (b := b_Disks_losses) 1 1 0 T.Disks_losses sc_Disks_losses rfl rfl (fun f cdv A outer s H E hr tk => (s_one (s_ret (e_fld T.fl (e_var (i := 0))))))
noncomputable def b_Disks_is_there : MS := (mRet (mBin gIx (mFld isF "_there" (mVar 0)) (mVar 1)))
noncomputable def m_Disks_is_there : MF := mF 2 2 0 b_Disks_is_there
theorem has_Disks_is_there (T : Txt K mg) : HasM P w K mg base (L2N.CX P w) 1 "Disks" "is_there" ["self", "disk"] (spM ⟨K, mg⟩ m_Disks_is_there) := by
  exact def_hasMN (b := b_Disks_is_there) 2 2 0 T.Disks_is_there sc_Disks_is_there rfl rfl (fun f cdv A outer s H E hr tk => (s_one (s_ret (e_ix hr (e_fld T.fl (e_var (i := 0))) (e_var (i := 1))))))
end
end Lw
namespace Lw
open PySem PySem.Spec PyProof.Rows L2 Am
section
variable {P : Program} {w : World} {K : PySem.W.Frag} {mg : Str → Option Value} {base : Heap}
noncomputable def b_Disks__fail : MS := (mSeq (mFS isF "_powered" (mVar 0) (mC (.bl false)))
  (mSeq (mFS isF "_fuse" (mVar 0) (mC .non))
  (mSeq (mFA isF "_losses" (gI0 fun i j => .int (i + j)) (mVar 0) (mC (.int 1)))
  (mFS isF "in_use" (mVar 0) (mC (.bl false))))))
noncomputable def m_Disks__fail : MF := mF 1 1 0 b_Disks__fail
theorem has_Disks__fail (T : Txt K mg) : HasM P w K mg base (L2N.CX P w) 1 "Disks" "_fail" ["self"] (spM ⟨K, mg⟩ m_Disks__fail) := by
  exact def_hasMN (b := b_Disks__fail) 1 1 0 T.Disks__fail sc_Disks__fail rfl rfl (fun f cdv A outer s H E hr tk => (s_cons (s_fld T.fl (e_var (i := 0)) e_bl)
  (s_cons (s_fld T.fl (e_var (i := 0)) e_non)
  (s_cons (s_fldaug T.fl (e_var (i := 0)) e_int ip_add (gI0_ok fun _ _ _ => rfl))
  (s_one (s_fld T.fl (e_var (i := 0)) e_bl))))))
noncomputable def b_Disks__operation : MS := (mSeq (mIf (mNot (mTru (mFld isF "_powered" (mVar 0))))
  (mRaise "PowerOff")
  mSkip)
  (mSeq (mIf (mTst (mBin (gEq false) (mFld isF "_fuse" (mVar 0)) (mC (.int 0))))
  (mSeq (mDo (mMeth "Disks" "_fail" m_Disks__fail (mVar 0) mNil))
  (mRaise "PowerOff"))
  mSkip)
  (mIf (mTst (mBin (gIs true) (mFld isF "_fuse" (mVar 0)) (mC .non)))
  (mFA isF "_fuse" gSub (mVar 0) (mC (.int 1)))
  mSkip)))
noncomputable def m_Disks__operation : MF := mF 1 1 0 b_Disks__operation
theorem has_Disks__operation (T : Txt K mg) : HasM P w K mg base (L2N.CX P w) 2 "Disks" "_operation" ["self"] (spM ⟨K, mg⟩ m_Disks__operation) := by
  have h_Disks__fail := has_Disks__fail (P := P) (w := w) (base := base) T
  exact def_hasMN (b := b_Disks__operation) 1 1 0 T.Disks__operation sc_Disks__operation rfl rfl (fun f cdv A outer s H E hr tk => (s_cons (s_if (t_not (t_tru (e_fld T.fl (e_var (i := 0)))))
  (s_one (s_raiseN T.x_PowerOff rfl tk))
  s_nil)
  (s_cons (s_if (t_eq hr (e_fld T.fl (e_var (i := 0))) e_int)
  (s_cons (s_do (e_meth0N h_Disks__fail (hr.mono (by decide)) tk (e_var (i := 0))))
  (s_one (s_raiseN T.x_PowerOff rfl tk)))
  s_nil)
  (s_one (s_if (t_isnot (e_fld T.fl (e_var (i := 0))) e_non)
  (s_one (s_fldaug T.fl (e_var (i := 0)) e_int ip_sub (gI0_ok fun _ _ _ => rfl)))
  s_nil)))))
noncomputable def b_Disks__lay : MS := (mSeq (mFor (iZipM (mCons (mBin gIx (mFld isF "_waiting" (mVar 0)) (mVar 1)) (mCons (mVar 2) mNil))) (kTup (kCons (kTup (kCons (kName 3) (kCons (kName 4) kNil)) 2) (kCons (kName 5) kNil)) 2)
  (mIf (mTru (mVar 5))
  (mAsg (mVar 4) (kSub (mBin gIx (mFld isF "_media" (mVar 0)) (mVar 1)) (mVar 3)))
  mSkip))
  (mAsg (mList true mNil) (kSub (mFld isF "_waiting" (mVar 0)) (mVar 1))))
noncomputable def m_Disks__lay : MF := mF 3 6 0 b_Disks__lay
theorem has_Disks__lay (T : Txt K mg) : HasM P w K mg base (L2N.CX P w) 1 "Disks" "_lay" ["self", "disk", "kept"] (spM ⟨K, mg⟩ m_Disks__lay) := by
  exact def_hasMN (b := b_Disks__lay) 3 6 0 T.Disks__lay sc_Disks__lay rfl rfl (fun f cdv A outer s H E hr tk => (s_cons (s_for (passes_of rfl) rfl (i_zip T.b_zip (a_cons (e_ix hr (e_fld T.fl (e_var (i := 0))) (e_var (i := 1))) (a_cons (e_var (i := 2)) a_nil))) (g_tup rfl (gs_cons (g_tup rfl (gs_cons (g_name (j := 3) sc_Disks__lay.nd rfl (by first | exact Or.inl rfl | exact Or.inr rfl)) (gs_cons (g_name (j := 4) sc_Disks__lay.nd rfl (by first | exact Or.inl rfl | exact Or.inr rfl)) gs_nil))) (gs_cons (g_name (j := 5) sc_Disks__lay.nd rfl (by first | exact Or.inl rfl | exact Or.inr rfl)) gs_nil)))
  (s_one (s_if (t_tru (e_var (i := 5)))
  (s_one (s_asg (e_var (i := 4)) (g_sub (W := fun cls d _ H => E cls d H) hr (e_ix hr (e_fld T.fl (e_var (i := 0))) (e_var (i := 1))) (e_var (i := 3)))))
  s_nil)))
  (s_one (s_asg (e_list true a_nil) (g_sub (W := fun cls d _ H => E cls d H) hr (e_fld T.fl (e_var (i := 0))) (e_var (i := 1)))))))
end
end Lw
namespace Lw
open PySem PySem.Spec PyProof.Rows L2 Am
section
variable {P : Program} {w : World} {K : PySem.W.Frag} {mg : Str → Option Value} {base : Heap}
noncomputable def b_Disks_write : MS := (mSeq (mDo (mMeth "Disks" "_operation" m_Disks__operation (mVar 0) mNil))
  (mIf (mTru (mBin gIx (mFld isF "_there" (mVar 0)) (mVar 1)))
  (mSeq (mDo (mMethL gAppend (mBin gIx (mFld isF "_waiting" (mVar 0)) (mVar 1)) (mCons (mTup (mCons (mVar 2) (mCons (mCallB (gListOf false) (mCons (mVar 3) mNil)) mNil))) mNil)))
  (mFA isF "_writes" (gI0 fun i j => .int (i + j)) (mVar 0) (mC (.int 1))))
  mSkip))
noncomputable def m_Disks_write : MF := mF 4 4 0 b_Disks_write
theorem has_Disks_write (T : Txt K mg) : HasM P w K mg base (L2N.CX P w) 3 "Disks" "write" ["self", "disk", "sector", "data"] (spM ⟨K, mg⟩ m_Disks_write) := by
  have h_Disks__operation := has_Disks__operation (P := P) (w := w) (base := base) T
  exact def_hasMN (b := b_Disks_write) 4 4 0 T.Disks_write sc_Disks_write rfl rfl (fun f cdv A outer s H E hr tk => (s_cons (s_do (e_meth0N h_Disks__operation (hr.mono (by decide)) tk (e_var (i := 0))))
  (s_one (s_if (t_tru (e_ix hr (e_fld T.fl (e_var (i := 0))) (e_var (i := 1))))
  (s_cons (s_do (e_methL PySem.F.slot_list_append PySem.F.type_list_append mt_append gAppend_ok (e_ix hr (e_fld T.fl (e_var (i := 0))) (e_var (i := 1))) (a_cons (e_tup (a_cons (e_var (i := 2)) (a_cons (e_listc false (a_cons (e_var (i := 3)) a_nil) T.b_list) a_nil))) a_nil) ⟨rfl, rfl⟩))
  (s_one (s_fldaug T.fl (e_var (i := 0)) e_int ip_add (gI0_ok fun _ _ _ => rfl))))
  s_nil))))
noncomputable def b_Disks_sync : MS := (mSeq (mDo (mMeth "Disks" "_operation" m_Disks__operation (mVar 0) mNil))
  (mSeq (mFor (iRng1M (mCons (mCallB gLen (mCons (mFld isF "_media" (mVar 0)) mNil)) mNil)) (kName 1)
  (mDo (mMeth "Disks" "_lay" m_Disks__lay (mVar 0) (mCons (mVar 1) (mCons (mLc false [2] (pt1 2) (iListM (mBin gIx (mFld isF "_waiting" (mVar 0)) (mVar 1))) mYes (mC (.bl true))) mNil)))))
  (mFA isF "_syncs" (gI0 fun i j => .int (i + j)) (mVar 0) (mC (.int 1)))))
noncomputable def m_Disks_sync : MF := mF 1 3 0 b_Disks_sync
theorem has_Disks_sync (T : Txt K mg) : HasM P w K mg base (L2N.CX P w) 3 "Disks" "sync" ["self"] (spM ⟨K, mg⟩ m_Disks_sync) := by
  have h_Disks__lay := has_Disks__lay (P := P) (w := w) (base := base) T
  have h_Disks__operation := has_Disks__operation (P := P) (w := w) (base := base) T
  exact def_hasMN (b := b_Disks_sync) 1 3 0 T.Disks_sync sc_Disks_sync rfl rfl (fun f cdv A outer s H E hr tk => (s_cons (s_do (e_meth0N h_Disks__operation (hr.mono (by decide)) tk (e_var (i := 0))))
  (s_cons (s_for (passes_of rfl) rfl (i_range1 T.b_range (a_cons (e_len (a_cons (e_fld T.fl (e_var (i := 0))) a_nil) T.b_len) a_nil)) (g_name (j := 1) sc_Disks_sync.nd rfl (by first | exact Or.inl rfl | exact Or.inr rfl))
  (s_one (s_do (e_methN h_Disks__lay (hr.mono (by decide)) tk (e_var (i := 0)) (a_cons (e_var (i := 1)) (a_cons (e_lc (own := [("_", 2)]) false (pt1_ok 2) rfl sc_Disks_sync.nd (i_list (e_ix hr (e_fld T.fl (e_var (i := 0))) (e_var (i := 1)))) (blkOk_by (own := [("_", 2)]) (N := ["self", "disk", "_"]) (sc := defScope (inClass (topS 7) 13)) (by decide +kernel)) (fun _ _ _ _ _ => (pg_name (i := 2) sc_Disks_sync.nd rfl (by first | exact Or.inl rfl | exact Or.inr rfl))) (fun _ _ _ _ _ => ts_nil) (fun _ _ _ _ _ => e_bl)) a_nil))))))
  (s_one (s_fldaug T.fl (e_var (i := 0)) e_int ip_add (gI0_ok fun _ _ _ => rfl))))))
noncomputable def b_Disks_away : MS := (mSeq (mAsg (mC (.bl false)) (kSub (mFld isF "_there" (mVar 0)) (mVar 1)))
  (mAsg (mList true mNil) (kSub (mFld isF "_waiting" (mVar 0)) (mVar 1))))
noncomputable def m_Disks_away : MF := mF 2 2 0 b_Disks_away
theorem has_Disks_away (T : Txt K mg) : HasM P w K mg base (L2N.CX P w) 1 "Disks" "away" ["self", "disk"] (spM ⟨K, mg⟩ m_Disks_away) := by
  exact def_hasMN (b := b_Disks_away) 2 2 0 T.Disks_away sc_Disks_away rfl rfl (fun f cdv A outer s H E hr tk => (s_cons (s_asg e_bl (g_sub (W := fun cls d _ H => E cls d H) hr (e_fld T.fl (e_var (i := 0))) (e_var (i := 1))))
  (s_one (s_asg (e_list true a_nil) (g_sub (W := fun cls d _ H => E cls d H) hr (e_fld T.fl (e_var (i := 0))) (e_var (i := 1)))))))
end
end Lw
namespace Lw
open PySem PySem.Spec PyProof.Rows L2 Am
section
variable {P : Program} {w : World} {K : PySem.W.Frag} {mg : Str → Option Value} {base : Heap}
noncomputable def b_Disks_cell : MS := (mSeq (mIf (mNot (mTru (mBin gIx (mFld isF "_there" (mVar 0)) (mVar 1))))
  (mRet (mC .non))
  mSkip)
  (mSeq (mFor (iReversedM (mCons (mBin gIx (mFld isF "_waiting" (mVar 0)) (mVar 1)) mNil)) (kTup (kCons (kName 3) (kCons (kName 4) kNil)) 2)
  (mIf (mTst (mBin (gEq false) (mVar 3) (mVar 2)))
  (mRet (mCallB (gListOf false) (mCons (mVar 4) mNil)))
  mSkip))
  (mSeq (mSet 4 (mBin gIx (mBin gIx (mFld isF "_media" (mVar 0)) (mVar 1)) (mVar 2)))
  (mSeq (mIf (mTst (mBin (gIs false) (mVar 4) (mC .non)))
  (mRet (mC .non))
  mSkip)
  (mRet (mCallB (gListOf false) (mCons (mVar 4) mNil)))))))
noncomputable def m_Disks_cell : MF := mF 3 5 0 b_Disks_cell
theorem has_Disks_cell (T : Txt K mg) : HasM P w K mg base (L2N.CX P w) 1 "Disks" "cell" ["self", "disk", "sector"] (spM ⟨K, mg⟩ m_Disks_cell) := by
  exact def_hasMN (b := b_Disks_cell) 3 5 0 T.Disks_cell sc_Disks_cell rfl rfl (fun f cdv A outer s H E hr tk => (s_cons (s_if (t_not (t_tru (e_ix hr (e_fld T.fl (e_var (i := 0))) (e_var (i := 1)))))
  (s_one (s_ret e_non))
  s_nil)
  (s_cons (s_for (passes_of rfl) rfl (i_reversed T.b_reversed (a_cons (e_ix hr (e_fld T.fl (e_var (i := 0))) (e_var (i := 1))) a_nil)) (g_tup rfl (gs_cons (g_name (j := 3) sc_Disks_cell.nd rfl (by first | exact Or.inl rfl | exact Or.inr rfl)) (gs_cons (g_name (j := 4) sc_Disks_cell.nd rfl (by first | exact Or.inl rfl | exact Or.inr rfl)) gs_nil)))
  (s_one (s_if (t_eq hr (e_var (i := 3)) (e_var (i := 2)))
  (s_one (s_ret (e_listc false (a_cons (e_var (i := 4)) a_nil) T.b_list)))
  s_nil)))
  (s_cons (s_set (j := 4) sc_Disks_cell.nd rfl (by first | exact Or.inl rfl | exact Or.inr rfl) (e_ix hr (e_ix hr (e_fld T.fl (e_var (i := 0))) (e_var (i := 1))) (e_var (i := 2))))
  (s_cons (s_if (t_is (e_var (i := 4)) e_non)
  (s_one (s_ret e_non))
  s_nil)
  (s_one (s_ret (e_listc false (a_cons (e_var (i := 4)) a_nil) T.b_list))))))))
noncomputable def b_Disks_pending : MS := (mDo (mCall m__wall (mCons (mC (.int 0)) mNil)))
noncomputable def m_Disks_pending : MF := mF 2 2 0 b_Disks_pending
theorem has_Disks_pending (T : Txt K mg) : HasM P w K mg base (L2N.CX P w) 2 "Disks" "pending" ["self", "disk"] (spM ⟨K, mg⟩ m_Disks_pending) := by
  have h__wall := has__wall (P := P) (w := w) (base := base) T
  exact def_hasMN (b := b_Disks_pending) 2 2 0 T.Disks_pending sc_Disks_pending rfl rfl (fun f cdv A outer s H E hr tk => (s_one (s_do (e_callN h__wall (hr.mono (by decide)) tk (a_cons e_int a_nil)))))
noncomputable def b_Disks_ask : MS := (mSeq (mIf (mTru (mBin gIx (mFld isF "_there" (mVar 0)) (mVar 1)))
  (mFA isF "_reads" (gI0 fun i j => .int (i + j)) (mVar 0) (mC (.int 1)))
  mSkip)
  (mRet (mMeth "Disks" "cell" m_Disks_cell (mVar 0) (mCons (mVar 1) (mCons (mVar 2) mNil)))))
noncomputable def m_Disks_ask : MF := mF 3 3 0 b_Disks_ask
theorem has_Disks_ask (T : Txt K mg) : HasM P w K mg base (L2N.CX P w) 2 "Disks" "ask" ["self", "disk", "sector"] (spM ⟨K, mg⟩ m_Disks_ask) := by
  have h_Disks_cell := has_Disks_cell (P := P) (w := w) (base := base) T
  exact def_hasMN (b := b_Disks_ask) 3 3 0 T.Disks_ask sc_Disks_ask rfl rfl (fun f cdv A outer s H E hr tk => (s_cons (s_if (t_tru (e_ix hr (e_fld T.fl (e_var (i := 0))) (e_var (i := 1))))
  (s_one (s_fldaug T.fl (e_var (i := 0)) e_int ip_add (gI0_ok fun _ _ _ => rfl)))
  s_nil)
  (s_one (s_ret (e_methN h_Disks_cell (hr.mono (by decide)) tk (e_var (i := 0)) (a_cons (e_var (i := 1)) (a_cons (e_var (i := 2)) a_nil)))))))
noncomputable def b_Disks_rot : MS := (mDo (mCall m__wall (mCons (mC (.int 1)) mNil)))
noncomputable def m_Disks_rot : MF := mF 4 4 0 b_Disks_rot
theorem has_Disks_rot (T : Txt K mg) : HasM P w K mg base (L2N.CX P w) 2 "Disks" "rot" ["self", "disk", "sector", "data"] (spM ⟨K, mg⟩ m_Disks_rot) := by
  have h__wall := has__wall (P := P) (w := w) (base := base) T
  exact def_hasMN (b := b_Disks_rot) 4 4 0 T.Disks_rot sc_Disks_rot rfl rfl (fun f cdv A outer s H E hr tk => (s_one (s_do (e_callN h__wall (hr.mono (by decide)) tk (a_cons e_int a_nil)))))
noncomputable def b_Disks_bad : MS := (mDo (mCall m__wall (mCons (mC (.int 2)) mNil)))
noncomputable def m_Disks_bad : MF := mF 3 3 0 b_Disks_bad
theorem has_Disks_bad (T : Txt K mg) : HasM P w K mg base (L2N.CX P w) 2 "Disks" "bad" ["self", "disk", "sector"] (spM ⟨K, mg⟩ m_Disks_bad) := by
  have h__wall := has__wall (P := P) (w := w) (base := base) T
  exact def_hasMN (b := b_Disks_bad) 3 3 0 T.Disks_bad sc_Disks_bad rfl rfl (fun f cdv A outer s H E hr tk => (s_one (s_do (e_callN h__wall (hr.mono (by decide)) tk (a_cons e_int a_nil)))))
noncomputable def b_Disks_blank : MS := (mDo (mCall m__wall (mCons (mC (.int 3)) mNil)))
noncomputable def m_Disks_blank : MF := mF 2 2 0 b_Disks_blank
theorem has_Disks_blank (T : Txt K mg) : HasM P w K mg base (L2N.CX P w) 2 "Disks" "blank" ["self", "disk"] (spM ⟨K, mg⟩ m_Disks_blank) := by
  have h__wall := has__wall (P := P) (w := w) (base := base) T
  exact def_hasMN (b := b_Disks_blank) 2 2 0 T.Disks_blank sc_Disks_blank rfl rfl (fun f cdv A outer s H E hr tk => (s_one (s_do (e_callN h__wall (hr.mono (by decide)) tk (a_cons e_int a_nil)))))
noncomputable def b_Disks_power : MS := (mSeq (mIf (mTru (mFld isF "_powered" (mVar 0)))
  (mDo (mMeth "Disks" "_fail" m_Disks__fail (mVar 0) mNil))
  mSkip)
  (mSeq (mFor (iRng1M (mCons (mCallB gLen (mCons (mFld isF "_media" (mVar 0)) mNil)) mNil)) (kName 2)
  (mSeq (mSet 3 (mList false mNil))
  (mSeq (mIf (mTst (mBin gLt (mVar 2) (mCallB gLen (mCons (mVar 1) mNil))))
  (mSet 3 (mBin gIx (mVar 1) (mVar 2)))
  mSkip)
  (mDo (mMeth "Disks" "_lay" m_Disks__lay (mVar 0) (mCons (mVar 2) (mCons (mVar 3) mNil)))))))
  (mSeq (mFS isF "_powered" (mVar 0) (mC (.bl true)))
  (mFS isF "_fuse" (mVar 0) (mC .non)))))
noncomputable def m_Disks_power : MF := mF 2 4 0 b_Disks_power
theorem has_Disks_power (T : Txt K mg) : HasM P w K mg base (L2N.CX P w) 2 "Disks" "power" ["self", "kept"] (spM ⟨K, mg⟩ m_Disks_power) := by
  have h_Disks__fail := has_Disks__fail (P := P) (w := w) (base := base) T
  have h_Disks__lay := has_Disks__lay (P := P) (w := w) (base := base) T
  exact def_hasMN (b := b_Disks_power) 2 4 0 T.Disks_power sc_Disks_power rfl rfl (fun f cdv A outer s H E hr tk => (s_cons (s_if (t_tru (e_fld T.fl (e_var (i := 0))))
  (s_one (s_do (e_meth0N h_Disks__fail (hr.mono (by decide)) tk (e_var (i := 0)))))
  s_nil)
  (s_cons (s_for (passes_of rfl) rfl (i_range1 T.b_range (a_cons (e_len (a_cons (e_fld T.fl (e_var (i := 0))) a_nil) T.b_len) a_nil)) (g_name (j := 2) sc_Disks_power.nd rfl (by first | exact Or.inl rfl | exact Or.inr rfl))
  (s_cons (s_set (j := 3) sc_Disks_power.nd rfl (by first | exact Or.inl rfl | exact Or.inr rfl) (e_list false a_nil))
  (s_cons (s_if (t_lt (e_var (i := 2)) (e_len (a_cons (e_var (i := 1)) a_nil) T.b_len))
  (s_one (s_set (j := 3) sc_Disks_power.nd rfl (by first | exact Or.inl rfl | exact Or.inr rfl) (e_ix hr (e_var (i := 1)) (e_var (i := 2)))))
  s_nil)
  (s_one (s_do (e_methN h_Disks__lay (hr.mono (by decide)) tk (e_var (i := 0)) (a_cons (e_var (i := 2)) (a_cons (e_var (i := 3)) a_nil))))))))
  (s_cons (s_fld T.fl (e_var (i := 0)) e_bl)
  (s_one (s_fld T.fl (e_var (i := 0)) e_non))))))
noncomputable def b_Disks_fail_after : MS := (mSeq (mIf (mNot (mTru (mFld isF "_powered" (mVar 0))))
  (mRaise "PowerOff")
  mSkip)
  (mFS isF "_fuse" (mVar 0) (mVar 1)))
noncomputable def m_Disks_fail_after : MF := mF 2 2 0 b_Disks_fail_after
theorem has_Disks_fail_after (T : Txt K mg) : HasM P w K mg base (L2N.CX P w) 1 "Disks" "fail_after" ["self", "operations"] (spM ⟨K, mg⟩ m_Disks_fail_after) := by
  exact def_hasMN (b := b_Disks_fail_after) 2 2 0 T.Disks_fail_after sc_Disks_fail_after rfl rfl (fun f cdv A outer s H E hr tk => (s_cons (s_if (t_not (t_tru (e_fld T.fl (e_var (i := 0)))))
  (s_one (s_raiseN T.x_PowerOff rfl tk))
  s_nil)
  (s_one (s_fld T.fl (e_var (i := 0)) (e_var (i := 1))))))
noncomputable def b_is_between : MS := (mRet (mAndV (mUn (gIsi "int") (mVar 0)) (mAndV (mNotV (mUn (gIsi "bool") (mVar 0))) (mChain gLe gLe (mVar 1) (mVar 0) (mVar 2)))))
noncomputable def m_is_between : MF := mF 3 3 0 b_is_between
theorem has_is_between (T : Txt K mg) : Rw.Has P w K mg base (L2N.CX P w) 1 "is_between" ["value", "least", "greatest"] (spM ⟨K, mg⟩ m_is_between) := by
  exact def_hasN (b := b_is_between) 3 3 0 T.is_between sc_is_between rfl rfl (fun f cdv A outer s H E hr tk => (s_one (s_ret (e_and (e_isi (e_var (i := 0)) T.b_isinstance T.b_int boot_int) (e_and (e_not (e_isi (e_var (i := 0)) T.b_isinstance T.b_bool boot_bool)) (e_one (e_leLe (e_var (i := 1)) (e_var (i := 0)) (e_var (i := 2)))))))))
noncomputable def b_Disks___init__ : MS := (mSeq (mIf (mOr (mNot (mTru (mCall m_is_between (mCons (mVar 1) (mCons (mC (.int 4)) (mCons (mC (.int 8)) mNil)))))) (mNot (mTru (mCall m_is_between (mCons (mVar 2) (mCons (mC (.int 48)) (mCons (mC (.int 200)) mNil)))))))
  (mRaise "InvalidArgument")
  mSkip)
  (mSeq (mIf (mOr (mNot (mTru (mCall m_is_between (mCons (mVar 3) (mCons (mC (.int 1)) (mCons (mVar 1) mNil)))))) (mOr (mNot (mTru (mCall m_is_between (mCons (mVar 4) (mCons (mC (.int 1)) (mCons (mVar 1) mNil)))))) (mTst (mBin gGt (mBin (gAdd false) (mVar 3) (mVar 4)) (mVar 1)))))
  (mRaise "InvalidArgument")
  mSkip)
  (mSeq (mFS isF "_sizes" (mVar 0) (mTup (mCons (mVar 1) (mCons (mVar 2) (mCons (mVar 3) (mCons (mVar 4) mNil))))))
  (mSeq (mFS isF "_media" (mVar 0) (mLc true [5] (pt1 5) (iRng1M (mCons (mVar 1) mNil)) mYes (mLc true [5] (pt1 5) (iRng1M (mCons (mVar 2) mNil)) mYes (mC .non))))
  (mSeq (mFS isF "_waiting" (mVar 0) (mLc true [5] (pt1 5) (iRng1M (mCons (mVar 1) mNil)) mYes (mList true mNil)))
  (mSeq (mFS isF "_there" (mVar 0) (mLc true [5] (pt1 5) (iRng1M (mCons (mVar 1) mNil)) mYes (mC (.bl true))))
  (mSeq (mFS isF "_powered" (mVar 0) (mC (.bl true)))
  (mSeq (mFS isF "_fuse" (mVar 0) (mC .non))
  (mSeq (mFS isF "_losses" (mVar 0) (mC (.int 0)))
  (mSeq (mFS isF "_reads" (mVar 0) (mC (.int 0)))
  (mSeq (mFS isF "_writes" (mVar 0) (mC (.int 0)))
  (mSeq (mFS isF "_syncs" (mVar 0) (mC (.int 0)))
  (mSeq (mFS isF "in_use" (mVar 0) (mC (.bl false)))
  (mSeq (mFS isF "formatted" (mVar 0) (mC (.bl false)))
  (mFS isF "scrub_place" (mVar 0) (mC (.int 0)))))))))))))))))
noncomputable def m_Disks___init__ : MF := mF 5 6 0 b_Disks___init__
theorem has_Disks___init__ (T : Txt K mg) : HasM P w K mg base (L2N.CX P w) 2 "Disks" "__init__" ["self", "disks", "sectors", "carrying", "depth"] (spM ⟨K, mg⟩ m_Disks___init__) := by
  have h_is_between := has_is_between (P := P) (w := w) (base := base) T
  exact def_hasMN (b := b_Disks___init__) 5 6 0 T.Disks___init__ sc_Disks___init__ rfl rfl (fun f cdv A outer s H E hr tk => (s_cons (s_if (t_bool (w_or (t_not (t_tru (e_callN h_is_between (hr.mono (by decide)) tk (a_cons (e_var (i := 1)) (a_cons e_int (a_cons e_int a_nil)))))) (w_or1 (t_not (t_tru (e_callN h_is_between (hr.mono (by decide)) tk (a_cons (e_var (i := 2)) (a_cons e_int (a_cons e_int a_nil)))))))))
  (s_one (s_raiseN T.x_InvalidArgument rfl tk))
  s_nil)
  (s_cons (s_if (t_bool (w_or (t_not (t_tru (e_callN h_is_between (hr.mono (by decide)) tk (a_cons (e_var (i := 3)) (a_cons e_int (a_cons (e_var (i := 1)) a_nil)))))) (w_or (t_not (t_tru (e_callN h_is_between (hr.mono (by decide)) tk (a_cons (e_var (i := 4)) (a_cons e_int (a_cons (e_var (i := 1)) a_nil)))))) (w_or1 (t_gt (e_add false (e_var (i := 3)) (e_var (i := 4))) (e_var (i := 1)))))))
  (s_one (s_raiseN T.x_InvalidArgument rfl tk))
  s_nil)
  (s_cons (s_fld T.fl (e_var (i := 0)) (e_tup (a_cons (e_var (i := 1)) (a_cons (e_var (i := 2)) (a_cons (e_var (i := 3)) (a_cons (e_var (i := 4)) a_nil))))))
  (s_cons (s_fld T.fl (e_var (i := 0)) (e_lc (own := [("_", 5)]) true (pt1_ok 5) rfl sc_Disks___init__.nd (i_range1 T.b_range (a_cons (e_var (i := 1)) a_nil)) (blkOk_by (own := [("_", 5)]) (N := ["self", "disks", "sectors", "carrying", "depth", "_"]) (sc := defScope (inClass (topS 7) 0)) (by decide +kernel)) (fun _ _ _ _ _ => (pg_name (i := 5) sc_Disks___init__.nd rfl (by first | exact Or.inl rfl | exact Or.inr rfl))) (fun _ _ _ _ _ => ts_nil) (fun _ _ _ _ _ => (e_lc (own := [("_", 5)]) true (pt1_ok 5) rfl sc_Disks___init__.nd (i_range1 T.b_range (a_cons (e_var (i := 2)) a_nil)) (blkOk_by (own := [("_", 5)]) (by rfl)) (fun _ _ _ _ _ => (pg_name (i := 5) sc_Disks___init__.nd rfl (by first | exact Or.inl rfl | exact Or.inr rfl))) (fun _ _ _ _ _ => ts_nil) (fun _ _ _ _ _ => e_non)))))
  (s_cons (s_fld T.fl (e_var (i := 0)) (e_lc (own := [("_", 5)]) true (pt1_ok 5) rfl sc_Disks___init__.nd (i_range1 T.b_range (a_cons (e_var (i := 1)) a_nil)) (blkOk_by (own := [("_", 5)]) (N := ["self", "disks", "sectors", "carrying", "depth", "_"]) (sc := defScope (inClass (topS 7) 0)) (by decide +kernel)) (fun _ _ _ _ _ => (pg_name (i := 5) sc_Disks___init__.nd rfl (by first | exact Or.inl rfl | exact Or.inr rfl))) (fun _ _ _ _ _ => ts_nil) (fun _ _ _ _ _ => (e_list true a_nil))))
  (s_cons (s_fld T.fl (e_var (i := 0)) (e_lc (own := [("_", 5)]) true (pt1_ok 5) rfl sc_Disks___init__.nd (i_range1 T.b_range (a_cons (e_var (i := 1)) a_nil)) (blkOk_by (own := [("_", 5)]) (N := ["self", "disks", "sectors", "carrying", "depth", "_"]) (sc := defScope (inClass (topS 7) 0)) (by decide +kernel)) (fun _ _ _ _ _ => (pg_name (i := 5) sc_Disks___init__.nd rfl (by first | exact Or.inl rfl | exact Or.inr rfl))) (fun _ _ _ _ _ => ts_nil) (fun _ _ _ _ _ => e_bl)))
  (s_cons (s_fld T.fl (e_var (i := 0)) e_bl)
  (s_cons (s_fld T.fl (e_var (i := 0)) e_non)
  (s_cons (s_fld T.fl (e_var (i := 0)) e_int)
  (s_cons (s_fld T.fl (e_var (i := 0)) e_int)
  (s_cons (s_fld T.fl (e_var (i := 0)) e_int)
  (s_cons (s_fld T.fl (e_var (i := 0)) e_int)
  (s_cons (s_fld T.fl (e_var (i := 0)) e_bl)
  (s_cons (s_fld T.fl (e_var (i := 0)) e_bl)
  (s_one (s_fld T.fl (e_var (i := 0)) e_int)))))))))))))))))
end
end Lw
namespace Lw
open PySem PySem.Spec PyProof.Rows L2 Am
section
variable {P : Program} {w : World} {K : PySem.W.Frag} {mg : Str → Option Value} {base : Heap}
noncomputable def bh_Disks_counts : MS := (mRet (mTup (mCons (mFld isF "_reads" (mVar 0)) (mCons (mFld isF "_writes" (mVar 0)) (mCons (mFld isF "_syncs" (mVar 0)) mNil)))))
noncomputable def mh_Disks_counts : MF := mF 1 1 0 bh_Disks_counts
theorem hash_Disks_counts (T : Txt K mg) : HasMH P w K mg base (L2.CX P w) 1 "Disks" "counts" ["self"] (spM ⟨K, mg⟩ mh_Disks_counts) := by
  exact def_hasMH (b := bh_Disks_counts) 1 1 0 T.Disks_counts sc_Disks_counts rfl rfl (fun f cdv A outer s H E _ hr tk hot => (s_one (s_ret (e_tup (a_cons (e_fld T.fl (e_var (i := 0))) (a_cons (e_fld T.fl (e_var (i := 0))) (a_cons (e_fld T.fl (e_var (i := 0))) a_nil)))))))
noncomputable def bh_Disks_is_on : MS := (mRet (mFld isF "_powered" (mVar 0)))
noncomputable def mh_Disks_is_on : MF := mF 1 1 0 bh_Disks_is_on
theorem hash_Disks_is_on (T : Txt K mg) : HasMH P w K mg base (L2.CX P w) 1 "Disks" "is_on" ["self"] (spM ⟨K, mg⟩ mh_Disks_is_on) := by
  exact def_hasMH (b := bh_Disks_is_on) 1 1 0 T.Disks_is_on sc_Disks_is_on rfl rfl (fun f cdv A outer s H E _ hr tk hot => (s_one (s_ret (e_fld T.fl (e_var (i := 0))))))
noncomputable def bh_Disks_losses : MS := (mRet (mFld isF "_losses" (mVar 0)))
noncomputable def mh_Disks_losses : MF := mF 1 1 0 bh_Disks_losses
theorem hash_Disks_losses (T : Txt K mg) : HasMH P w K mg base (L2.CX P w) 1 "Disks" "losses" ["self"] (spM ⟨K, mg⟩ mh_Disks_losses) := by
  exact def_hasMH (b := bh_Disks_losses) 1 1 0 T.Disks_losses sc_Disks_losses rfl rfl (fun f cdv A outer s H E _ hr tk hot => (s_one (s_ret (e_fld T.fl (e_var (i := 0))))))
noncomputable def bh_Disks__fail : MS := (mSeq (mFS isF "_powered" (mVar 0) (mC (.bl false)))
  (mSeq (mFS isF "_fuse" (mVar 0) (mC .non))
  (mSeq (mFA isF "_losses" (gI0 fun i j => .int (i + j)) (mVar 0) (mC (.int 1)))
  (mFS isF "in_use" (mVar 0) (mC (.bl false))))))
noncomputable def mh_Disks__fail : MF := mF 1 1 0 bh_Disks__fail
theorem hash_Disks__fail (T : Txt K mg) : HasMH P w K mg base (L2.CX P w) 1 "Disks" "_fail" ["self"] (spM ⟨K, mg⟩ mh_Disks__fail) := by
  exact def_hasMH (b := bh_Disks__fail) 1 1 0 T.Disks__fail sc_Disks__fail rfl rfl (fun f cdv A outer s H E _ hr tk hot => (s_cons (s_fld T.fl (e_var (i := 0)) e_bl)
  (s_cons (s_fld T.fl (e_var (i := 0)) e_non)
  (s_cons (s_fldaug T.fl (e_var (i := 0)) e_int ip_add (gI0_ok fun _ _ _ => rfl))
  (s_one (s_fld T.fl (e_var (i := 0)) e_bl))))))
noncomputable def bh_Disks__operation : MS := (mSeq (mIf (mNot (mTru (mFld isF "_powered" (mVar 0))))
  (mRaise "PowerOff")
  mSkip)
  (mSeq mNo
  mNo))
noncomputable def mh_Disks__operation : MF := mF 1 1 0 bh_Disks__operation
theorem hash_Disks__operation (T : Txt K mg) : HasMH P w K mg base (L2.CX P w) 2 "Disks" "_operation" ["self"] (spM ⟨K, mg⟩ mh_Disks__operation) := by
  exact def_hasMH (b := bh_Disks__operation) 1 1 0 T.Disks__operation sc_Disks__operation rfl rfl (fun f cdv A outer s H E _ hr tk hot => (s_cons (s_if (t_not (t_tru (e_fld T.fl (e_var (i := 0)))))
  (s_one (s_raiseH T.x_PowerOff hot tk))
  s_nil)
  (s_cons s_no
  (s_one s_no))))
noncomputable def bh_Disks_write : MS := (mSeq (mDo (mMeth "Disks" "_operation" mh_Disks__operation (mVar 0) mNil))
  mNo)
noncomputable def mh_Disks_write : MF := mF 4 4 0 bh_Disks_write
theorem hash_Disks_write (T : Txt K mg) : HasMH P w K mg base (L2.CX P w) 3 "Disks" "write" ["self", "disk", "sector", "data"] (spM ⟨K, mg⟩ mh_Disks_write) := by
  have hh_Disks__operation := hash_Disks__operation (P := P) (w := w) (base := base) T
  exact def_hasMH (b := bh_Disks_write) 4 4 0 T.Disks_write sc_Disks_write rfl rfl (fun f cdv A outer s H E _ hr tk hot => (s_cons (s_do (e_meth0H hh_Disks__operation (hr.mono (by decide)) hot tk (e_var (i := 0))))
  (s_one s_no)))
noncomputable def bh_Disks_sync : MS := (mSeq (mDo (mMeth "Disks" "_operation" mh_Disks__operation (mVar 0) mNil))
  (mSeq mNo
  mNo))
noncomputable def mh_Disks_sync : MF := mF 1 3 0 bh_Disks_sync
theorem hash_Disks_sync (T : Txt K mg) : HasMH P w K mg base (L2.CX P w) 3 "Disks" "sync" ["self"] (spM ⟨K, mg⟩ mh_Disks_sync) := by
  have hh_Disks__operation := hash_Disks__operation (P := P) (w := w) (base := base) T
  exact def_hasMH (b := bh_Disks_sync) 1 3 0 T.Disks_sync sc_Disks_sync rfl rfl (fun f cdv A outer s H E _ hr tk hot => (s_cons (s_do (e_meth0H hh_Disks__operation (hr.mono (by decide)) hot tk (e_var (i := 0))))
  (s_cons s_no
  (s_one s_no))))
noncomputable def bh_Disks_fail_after : MS := (mSeq (mIf (mNot (mTru (mFld isF "_powered" (mVar 0))))
  (mRaise "PowerOff")
  mSkip)
  (mFS isF "_fuse" (mVar 0) (mVar 1)))
noncomputable def mh_Disks_fail_after : MF := mF 2 2 0 bh_Disks_fail_after
theorem hash_Disks_fail_after (T : Txt K mg) : HasMH P w K mg base (L2.CX P w) 1 "Disks" "fail_after" ["self", "operations"] (spM ⟨K, mg⟩ mh_Disks_fail_after) := by
  exact def_hasMH (b := bh_Disks_fail_after) 2 2 0 T.Disks_fail_after sc_Disks_fail_after rfl rfl (fun f cdv A outer s H E _ hr tk hot => (s_cons (s_if (t_not (t_tru (e_fld T.fl (e_var (i := 0)))))
  (s_one (s_raiseH T.x_PowerOff hot tk))
  s_nil)
  (s_one (s_fld T.fl (e_var (i := 0)) (e_var (i := 1))))))
noncomputable def bh_Disks__lay : MS := (mSeq (mFor (iZip0M (mCons (mBin gIx (mFld isF "_waiting" (mVar 0)) (mVar 1)) (mCons (mVar 2) mNil))) kNo mNo)
  (mAsg (mList true mNil) (kSub (mFld isF "_waiting" (mVar 0)) (mVar 1))))
noncomputable def mh_Disks__lay : MF := mF 3 6 0 bh_Disks__lay
theorem hash_Disks__lay (T : Txt K mg) : HasMH P w K mg base (L2.CX P w) 1 "Disks" "_lay" ["self", "disk", "kept"] (spM ⟨K, mg⟩ mh_Disks__lay) := by
  exact def_hasMH (b := bh_Disks__lay) 3 6 0 T.Disks__lay sc_Disks__lay rfl rfl (fun f cdv A outer s H E _ hr tk hot => (s_cons (s_forH (passes_of rfl) hot (i_zip0H T.b_zip (a_cons (e_ixH hr (e_fld T.fl (e_var (i := 0))) (e_var (i := 1))) (a_cons (e_var (i := 2)) a_nil))) g_no pss_no)
  (s_one (s_asg (e_list true a_nil) (g_subH (W := fun cls d _ H => E cls d H) hr (e_fld T.fl (e_var (i := 0))) (e_var (i := 1)))))))
noncomputable def bh_Disks_power : MS := (mSeq (mIf (mTru (mFld isF "_powered" (mVar 0)))
  mNo
  mSkip)
  (mSeq (mFor (iRng1M (mCons (mCallB gLen (mCons (mFld isF "_media" (mVar 0)) mNil)) mNil)) (kName 2)
  (mSeq (mSet 3 (mList false mNil))
  (mSeq (mIf (mTst (mBin gLt (mVar 2) (mCallB gLen (mCons (mVar 1) mNil))))
  mNo
  mSkip)
  (mDo (mMeth "Disks" "_lay" mh_Disks__lay (mVar 0) (mCons (mVar 2) (mCons (mVar 3) mNil)))))))
  (mSeq (mFS isF "_powered" (mVar 0) (mC (.bl true)))
  (mFS isF "_fuse" (mVar 0) (mC .non)))))
noncomputable def mh_Disks_power : MF := mF 2 4 0 bh_Disks_power
theorem hash_Disks_power (T : Txt K mg) : HasMH P w K mg base (L2.CX P w) 2 "Disks" "power" ["self", "kept"] (spM ⟨K, mg⟩ mh_Disks_power) := by
  have hh_Disks__lay := hash_Disks__lay (P := P) (w := w) (base := base) T
  exact def_hasMH (b := bh_Disks_power) 2 4 0 T.Disks_power sc_Disks_power rfl rfl (fun f cdv A outer s H E _ hr tk hot => (s_cons (s_if (t_tru (e_fld T.fl (e_var (i := 0))))
  (s_one s_no)
  s_nil)
  (s_cons (s_forH (passes_of rfl) hot (i_range1H T.b_range (a_cons (e_len (a_cons (e_fld T.fl (e_var (i := 0))) a_nil) T.b_len) a_nil)) (g_name (j := 2) sc_Disks_power.nd rfl (by first | exact Or.inl rfl | exact Or.inr rfl))
  (s_cons (s_set (j := 3) sc_Disks_power.nd rfl (by first | exact Or.inl rfl | exact Or.inr rfl) (e_list false a_nil))
  (s_cons (s_if (t_lt (e_var (i := 2)) (e_len (a_cons (e_var (i := 1)) a_nil) T.b_len))
  (s_one s_no)
  s_nil)
  (s_one (s_do (e_methH hh_Disks__lay (hr.mono (by decide)) hot tk (e_var (i := 0)) (a_cons (e_var (i := 2)) (a_cons (e_var (i := 3)) a_nil))))))))
  (s_cons (s_fld T.fl (e_var (i := 0)) e_bl)
  (s_one (s_fld T.fl (e_var (i := 0)) e_non))))))
end
end Lw
namespace Lw
open PySem PySem.Spec PyProof.Rows L2 Am
section
variable {P : Program} {w : World} {K : PySem.W.Frag} {mg : Str → Option Value} {base : Heap}
noncomputable def bh__law_dark : MS := (mSeq (mSet 1 (mC (.int 0)))
  (mSeq (mFor (iRng1M (mCons (mC (.int 3)) mNil)) (kName 2)
  (mTryAs isE "PowerOff" 3
  (mIf (mTst (mBin (gEq false) (mVar 2) (mC (.int 0))))
  (mDo (mMeth "Disks" "write" mh_Disks_write (mVar 0) (mCons (mC (.int 0)) (mCons (mC (.int 0)) (mCons (mLc false [4] (pt1 4) (iRng1M (mCons (mC (.int 32)) mNil)) mYes (mC (.int 0))) mNil)))))
  (mIf (mTst (mBin (gEq false) (mVar 2) (mC (.int 1))))
  (mDo (mMeth "Disks" "sync" mh_Disks_sync (mVar 0) mNil))
  (mDo (mMeth "Disks" "fail_after" mh_Disks_fail_after (mVar 0) (mCons (mC (.int 5)) mNil)))))
  (fun x => (mAug 1 (gI0 fun i j => .int (i + j)) (mCallB gInt (mCons (mIsX isK x "RotError") mNil))))))
  (mRet (mAndV (mBin (gEq false) (mVar 1) (mC (.int 3))) (mNotV (mMeth "Disks" "is_on" mh_Disks_is_on (mVar 0) mNil))))))
noncomputable def mh__law_dark : MF := mF 1 5 0 bh__law_dark
theorem hash__law_dark (T : Txt K mg) : HasH P w K mg base (L2.CX P w) 4 "_law_dark" ["_law_disks"] (spM ⟨K, mg⟩ mh__law_dark) := by
  have hh_Disks_fail_after := hash_Disks_fail_after (P := P) (w := w) (base := base) T
  have hh_Disks_is_on := hash_Disks_is_on (P := P) (w := w) (base := base) T
  have hh_Disks_sync := hash_Disks_sync (P := P) (w := w) (base := base) T
  have hh_Disks_write := hash_Disks_write (P := P) (w := w) (base := base) T
  exact def_hasH (b := bh__law_dark) 1 5 0 T._law_dark sc__law_dark rfl rfl (fun f cdv A outer s H E _ hr tk hot => (s_cons (s_set (j := 1) sc__law_dark.nd rfl (by first | exact Or.inl rfl | exact Or.inr rfl) e_int)
  (s_cons (s_forH (passes_of rfl) hot (i_range1H T.b_range (a_cons e_int a_nil)) (g_name (j := 2) sc__law_dark.nd rfl (by first | exact Or.inl rfl | exact Or.inr rfl))
  (s_one (s_tryAsH (j := 3) T.em T.x_PowerOff hot tk sc__law_dark.nd rfl rfl (fun _ _ _ hot tk _ => (s_one (s_if (t_eqH hr (e_var (i := 2)) e_int)
  (s_one (s_do (e_methH hh_Disks_write (hr.mono (by decide)) hot tk (e_var (i := 0)) (a_cons e_int (a_cons e_int (a_cons (e_lcH (own := [("_law_k", 4)]) false hot (pt1_ok 4) sc__law_dark.nd (i_range1H T.b_range (a_cons e_int a_nil)) (blkOk_by (own := [("_law_k", 4)]) (N := ["_law_disks", "_law_told", "_law_kind", "error", "_law_k"]) (sc := defScope (topS 11)) (by decide +kernel)) (fun _ _ _ _ _ => (pg_name (i := 4) sc__law_dark.nd rfl (by first | exact Or.inl rfl | exact Or.inr rfl))) (fun _ _ _ _ _ => ts_nil) (fun _ _ _ _ _ => e_int)) a_nil))))))
  (s_one (s_if (t_eqH hr (e_var (i := 2)) e_int)
  (s_one (s_do (e_meth0H hh_Disks_sync (hr.mono (by decide)) hot tk (e_var (i := 0)))))
  (s_one (s_do (e_methH hh_Disks_fail_after (hr.mono (by decide)) hot tk (e_var (i := 0)) (a_cons e_int a_nil)))))))))
  (fun a oe cls d pn x z q => (Am.pss_one (p_aug (j := 1) sc__law_dark.nd rfl (by first | exact Or.inl rfl | exact Or.inr rfl) (p_int (pa_consP phi_lasts (p_isxO (j := 3) T.ix z q T.b_isinstance T.x_RotError) pa_nilP) T.b_int) ip_add (gI0_ok fun _ _ _ => rfl)))))))
  (s_one (s_ret (e_and (e_eqH hr (e_var (i := 1)) e_int) (e_one (e_not (e_meth0H hh_Disks_is_on (hr.mono (by decide)) hot tk (e_var (i := 0)))))))))))
end
end Lw
namespace Lw
open PySem PySem.Spec PyProof.Rows L2 Am
section
variable {P : Program} {w : World} {K : PySem.W.Frag} {mg : Str → Option Value} {base : Heap}
noncomputable def b__law_draw : MS := (mSeq (mIf (mNot (mTru (mVar 0)))
  (mRet (mBin gMod (mBin (gMul false) (mVar 1) (mC (.int 5))) (mC (.int 7))))
  mSkip)
  (mSeq (mSet 2 (mCallB gInt (mCons (mBin gIx (mVar 0) (mBin gMod (mVar 1) (mCallB gLen (mCons (mVar 0) mNil)))) mNil)))
  (mSeq (mSet 3 (mBin gFdiv (mVar 1) (mCallB gLen (mCons (mVar 0) mNil))))
  (mSeq (mIf (mTst (mBin gGe (mVar 2) (mC (.int 1000000000000000000))))
  (mSeq (mFor (iRng1M (mCons (mCallB gMin (mCons (mVar 3) (mCons (mC (.int 60)) mNil))) mNil)) (kName 4)
  (mSet 2 (mBin gFdiv (mVar 2) (mC (.int 100003)))))
  (mRet (mBin gMod (mVar 2) (mC (.int 100003)))))
  mSkip)
  (mRet (mBin gMod (mBin (gMul false) (mBin gMod (mBin (gAdd false) (mBin (gAdd false) (mBin (gMul false) (mVar 2) (mC (.int 48271))) (mBin (gMul false) (mVar 1) (mC (.int 69621)))) (mC (.int 13))) (mC (.int 2147483647))) (mC (.int 16807))) (mC (.int 2147483629))))))))
noncomputable def m__law_draw : MF := mF 2 5 0 b__law_draw
theorem has__law_draw (T : Txt K mg) : Rw.Has P w K mg base (L2N.CX P w) 1 "_law_draw" ["_law_script", "_law_k"] (spM ⟨K, mg⟩ m__law_draw) := by
  exact def_hasN (b := b__law_draw) 2 5 0 T._law_draw sc__law_draw rfl rfl (fun f cdv A outer s H E hr tk => (s_cons (s_if (t_not (t_tru (e_var (i := 0))))
  (s_one (s_ret (e_mod (e_mul false (e_var (i := 1)) e_int) e_int)))
  s_nil)
  (s_cons (s_set (j := 2) sc__law_draw.nd rfl (by first | exact Or.inl rfl | exact Or.inr rfl) (e_intc (a_cons (e_ix hr (e_var (i := 0)) (e_mod (e_var (i := 1)) (e_len (a_cons (e_var (i := 0)) a_nil) T.b_len))) a_nil) T.b_int))
  (s_cons (s_set (j := 3) sc__law_draw.nd rfl (by first | exact Or.inl rfl | exact Or.inr rfl) (e_fdiv (e_var (i := 1)) (e_len (a_cons (e_var (i := 0)) a_nil) T.b_len)))
  (s_cons (s_if (t_ge (e_var (i := 2)) e_int)
  (s_cons (s_for (passes_of rfl) rfl (i_range1 T.b_range (a_cons (e_min rfl (a_cons (e_var (i := 3)) (a_cons e_int a_nil)) T.b_min) a_nil)) (g_name (j := 4) sc__law_draw.nd rfl (by first | exact Or.inl rfl | exact Or.inr rfl))
  (s_one (s_set (j := 2) sc__law_draw.nd rfl (by first | exact Or.inl rfl | exact Or.inr rfl) (e_fdiv (e_var (i := 2)) e_int))))
  (s_one (s_ret (e_mod (e_var (i := 2)) e_int))))
  s_nil)
  (s_one (s_ret (e_mod (e_mul false (e_mod (e_add false (e_add false (e_mul false (e_var (i := 2)) e_int) (e_mul false (e_var (i := 1)) e_int)) e_int) e_int) e_int) e_int))))))))
noncomputable def b__law_wrong : MS := (mSeq (mSet 1 (mList false (mCons (mTup (mCons (mC (.int 3)) (mCons (mC (.int 60)) (mCons (mC (.int 1)) (mCons (mC (.int 1)) mNil))))) (mCons (mTup (mCons (mBin (gAdd false) (mC (.int 9)) (mBin gMod (mVar 0) (mC (.int 9)))) (mCons (mC (.int 60)) (mCons (mC (.int 1)) (mCons (mC (.int 1)) mNil))))) (mCons (mTup (mCons (mC (.int 6)) (mCons (mC (.int 47)) (mCons (mC (.int 1)) (mCons (mC (.int 1)) mNil))))) (mCons (mTup (mCons (mC (.int 6)) (mCons (mBin (gAdd false) (mC (.int 201)) (mVar 0)) (mCons (mC (.int 1)) (mCons (mC (.int 1)) mNil))))) (mCons (mTup (mCons (mC (.int 6)) (mCons (mC (.int 60)) (mCons (mC (.int 0)) (mCons (mC (.int 1)) mNil))))) mNil)))))))
  (mSeq (mSet 1 (mBin (gAdd false) (mVar 1) (mList false (mCons (mTup (mCons (mC (.int 6)) (mCons (mC (.int 60)) (mCons (mC (.int 1)) (mCons (mC (.int 0)) mNil))))) (mCons (mTup (mCons (mC (.int 6)) (mCons (mC (.int 60)) (mCons (mC (.int 4)) (mCons (mC (.int 3)) mNil))))) (mCons (mTup (mCons (mC (.int 4)) (mCons (mC (.int 60)) (mCons (mC (.int 2)) (mCons (mC (.int 3)) mNil))))) (mCons (mTup (mCons (mC (.bl true)) (mCons (mC (.int 60)) (mCons (mC (.int 1)) (mCons (mC (.int 1)) mNil))))) (mCons (mTup (mCons (mC (.int 6)) (mCons (mC (.str "60")) (mCons (mC (.int 1)) (mCons (mC (.int 1)) mNil))))) (mCons (mTup (mCons (mC (.int 6)) (mCons (mC (.int 60)) (mCons (mC .non) (mCons (mC (.int 1)) mNil))))) mNil)))))))))
  (mSeq (mSet 1 (mBin (gAdd false) (mVar 1) (mList false (mCons (mTup (mCons (mC (.int 6)) (mCons (mC (.int 60)) (mCons (mC (.bl true)) (mCons (mC (.int 1)) mNil))))) (mCons (mTup (mCons (mC (.int 6)) (mCons (mC (.int 60)) (mCons (mC (.int 1)) (mCons (mC (.bl true)) mNil))))) (mCons (mTup (mCons (mC (.int 6)) (mCons (mC (.int 60)) (mCons (mUn gNeg (mC (.int 1))) (mCons (mC (.int 1)) mNil))))) mNil))))))
  (mSeq (mFor (iListM (mVar 1)) (kTup (kCons (kName 2) (kCons (kName 3) (kCons (kName 4) (kCons (kName 5) kNil)))) 4)
  (mTryAs isE "InvalidArgument" 6
  (mSeq (mDo (mMake "Disks" m_Disks___init__ (mCons (mVar 2) (mCons (mVar 3) (mCons (mVar 4) (mCons (mVar 5) mNil))))))
  (mRet (mC (.bl false))))
  (fun x => (mIf (mOr (mNot (mTru (mIsX isK x "RotError"))) (mNot (mTru (mIsX isK x "ValueError"))))
  (mRet (mC (.bl false)))
  mSkip))))
  (mSeq (mFor (iListM (mList false (mCons (mTup (mCons (mC (.int 4)) (mCons (mC (.int 48)) (mCons (mC (.int 1)) (mCons (mC (.int 1)) mNil))))) (mCons (mTup (mCons (mC (.int 8)) (mCons (mC (.int 200)) (mCons (mC (.int 7)) (mCons (mC (.int 1)) mNil))))) (mCons (mTup (mCons (mC (.int 8)) (mCons (mC (.int 60)) (mCons (mC (.int 4)) (mCons (mC (.int 4)) mNil))))) (mCons (mTup (mCons (mC (.int 5)) (mCons (mC (.int 100)) (mCons (mC (.int 1)) (mCons (mC (.int 4)) mNil))))) mNil)))))) (kName 7)
  (mSeq (mSet 2 (mMake "Disks" m_Disks___init__ (mCons (mBin gIx (mVar 7) (mC (.int 0))) (mCons (mBin gIx (mVar 7) (mC (.int 1))) (mCons (mBin gIx (mVar 7) (mC (.int 2))) (mCons (mBin gIx (mVar 7) (mC (.int 3))) mNil))))))
  (mIf (mOr (mTst (mBin (gEq true) (mMeth "Disks" "sizes" m_Disks_sizes (mVar 2) mNil) (mVar 7))) (mOr (mTst (mBin (gEq true) (mMeth "Disks" "counts" m_Disks_counts (mVar 2) mNil) (mTup (mCons (mC (.int 0)) (mCons (mC (.int 0)) (mCons (mC (.int 0)) mNil)))))) (mTst (mBin (gEq true) (mFld isF "scrub_place" (mVar 2)) (mC (.int 0))))))
  (mRet (mC (.bl false)))
  mSkip)))
  (mRet (mC (.bl true))))))))
noncomputable def m__law_wrong : MF := mF 1 8 0 b__law_wrong
theorem has__law_wrong (T : Txt K mg) : Rw.Has P w K mg base (L2N.CX P w) 4 "_law_wrong" ["_law_number"] (spM ⟨K, mg⟩ m__law_wrong) := by
  have h_Disks___init__ := has_Disks___init__ (P := P) (w := w) (base := base) T
  have h_Disks_counts := has_Disks_counts (P := P) (w := w) (base := base) T
  have h_Disks_sizes := has_Disks_sizes (P := P) (w := w) (base := base) T
  exact def_hasN (b := b__law_wrong) 1 8 0 T._law_wrong sc__law_wrong rfl rfl (fun f cdv A outer s H E hr tk => (s_cons (s_set (j := 1) sc__law_wrong.nd rfl (by first | exact Or.inl rfl | exact Or.inr rfl) (e_list false (a_cons (e_tup (a_cons e_int (a_cons e_int (a_cons e_int (a_cons e_int a_nil))))) (a_cons (e_tup (a_cons (e_add false e_int (e_mod (e_var (i := 0)) e_int)) (a_cons e_int (a_cons e_int (a_cons e_int a_nil))))) (a_cons (e_tup (a_cons e_int (a_cons e_int (a_cons e_int (a_cons e_int a_nil))))) (a_cons (e_tup (a_cons e_int (a_cons (e_add false e_int (e_var (i := 0))) (a_cons e_int (a_cons e_int a_nil))))) (a_cons (e_tup (a_cons e_int (a_cons e_int (a_cons e_int (a_cons e_int a_nil))))) a_nil)))))))
  (s_cons (s_set (j := 1) sc__law_wrong.nd rfl (by first | exact Or.inl rfl | exact Or.inr rfl) (e_add false (e_var (i := 1)) (e_list false (a_cons (e_tup (a_cons e_int (a_cons e_int (a_cons e_int (a_cons e_int a_nil))))) (a_cons (e_tup (a_cons e_int (a_cons e_int (a_cons e_int (a_cons e_int a_nil))))) (a_cons (e_tup (a_cons e_int (a_cons e_int (a_cons e_int (a_cons e_int a_nil))))) (a_cons (e_tup (a_cons e_bl (a_cons e_int (a_cons e_int (a_cons e_int a_nil))))) (a_cons (e_tup (a_cons e_int (a_cons e_str (a_cons e_int (a_cons e_int a_nil))))) (a_cons (e_tup (a_cons e_int (a_cons e_int (a_cons e_non (a_cons e_int a_nil))))) a_nil)))))))))
  (s_cons (s_set (j := 1) sc__law_wrong.nd rfl (by first | exact Or.inl rfl | exact Or.inr rfl) (e_add false (e_var (i := 1)) (e_list false (a_cons (e_tup (a_cons e_int (a_cons e_int (a_cons e_bl (a_cons e_int a_nil))))) (a_cons (e_tup (a_cons e_int (a_cons e_int (a_cons e_int (a_cons e_bl a_nil))))) (a_cons (e_tup (a_cons e_int (a_cons e_int (a_cons (e_neg e_int) (a_cons e_int a_nil))))) a_nil))))))
  (s_cons (s_for (passes_of rfl) rfl (i_list (e_var (i := 1))) (g_tup rfl (gs_cons (g_name (j := 2) sc__law_wrong.nd rfl (by first | exact Or.inl rfl | exact Or.inr rfl)) (gs_cons (g_name (j := 3) sc__law_wrong.nd rfl (by first | exact Or.inl rfl | exact Or.inr rfl)) (gs_cons (g_name (j := 4) sc__law_wrong.nd rfl (by first | exact Or.inl rfl | exact Or.inr rfl)) (gs_cons (g_name (j := 5) sc__law_wrong.nd rfl (by first | exact Or.inl rfl | exact Or.inr rfl)) gs_nil)))))
  (s_one (s_tryAsN (j := 6) T.em T.x_InvalidArgument tk sc__law_wrong.nd rfl rfl (fun _ _ _ tk _ => (s_cons (s_do (e_makeN h_Disks___init__ T.mk_Disks (hr.mono (by decide)) tk (a_cons (e_var (i := 2)) (a_cons (e_var (i := 3)) (a_cons (e_var (i := 4)) (a_cons (e_var (i := 5)) a_nil))))))
  (s_one (s_ret e_bl))))
  (fun a oe cls d pn x z q => (Am.pss_one (p_if phi_lasts (pt_bool (wp_or phi_lasts (pt_notP (pt_tru (p_isxO (j := 6) T.ix z q T.b_isinstance T.x_RotError))) (wp_or1 (pt_notP (pt_tru (p_isxB (j := 6) T.ix z q T.b_isinstance T.b_ValueError Am.boot_ValueError))))))
  (pss_of (s_one (s_ret e_bl)))
  (pss_of s_nil)))))))
  (s_cons (s_for (passes_of rfl) rfl (i_list (e_list false (a_cons (e_tup (a_cons e_int (a_cons e_int (a_cons e_int (a_cons e_int a_nil))))) (a_cons (e_tup (a_cons e_int (a_cons e_int (a_cons e_int (a_cons e_int a_nil))))) (a_cons (e_tup (a_cons e_int (a_cons e_int (a_cons e_int (a_cons e_int a_nil))))) (a_cons (e_tup (a_cons e_int (a_cons e_int (a_cons e_int (a_cons e_int a_nil))))) a_nil)))))) (g_name (j := 7) sc__law_wrong.nd rfl (by first | exact Or.inl rfl | exact Or.inr rfl))
  (s_cons (s_set (j := 2) sc__law_wrong.nd rfl (by first | exact Or.inl rfl | exact Or.inr rfl) (e_makeN h_Disks___init__ T.mk_Disks (hr.mono (by decide)) tk (a_cons (e_ix hr (e_var (i := 7)) e_int) (a_cons (e_ix hr (e_var (i := 7)) e_int) (a_cons (e_ix hr (e_var (i := 7)) e_int) (a_cons (e_ix hr (e_var (i := 7)) e_int) a_nil))))))
  (s_one (s_if (t_bool (w_or (t_ne hr (e_meth0N h_Disks_sizes (hr.mono (by decide)) tk (e_var (i := 2))) (e_var (i := 7))) (w_or (t_ne hr (e_meth0N h_Disks_counts (hr.mono (by decide)) tk (e_var (i := 2))) (e_tup (a_cons e_int (a_cons e_int (a_cons e_int a_nil))))) (w_or1 (t_ne hr (e_fld T.fl (e_var (i := 2))) e_int)))))
  (s_one (s_ret e_bl))
  s_nil))))
  (s_one (s_ret e_bl))))))))
end
end Lw
namespace Lw
open PySem PySem.Spec PyProof.Rows L2 Am
section
variable {P : Program} {w : World} {K : PySem.W.Frag} {mg : Str → Option Value} {base : Heap}
noncomputable def b__law_dark : MS := (mSeq (mSet 1 (mC (.int 0)))
  (mSeq (mFor (iRng1M (mCons (mC (.int 3)) mNil)) (kName 2)
  (mTryAs isE "PowerOff" 3
  (mIf (mTst (mBin (gEq false) (mVar 2) (mC (.int 0))))
  (mDo (mMeth "Disks" "write" m_Disks_write (mVar 0) (mCons (mC (.int 0)) (mCons (mC (.int 0)) (mCons (mLc false [4] (pt1 4) (iRng1M (mCons (mC (.int 32)) mNil)) mYes (mC (.int 0))) mNil)))))
  (mIf (mTst (mBin (gEq false) (mVar 2) (mC (.int 1))))
  (mDo (mMeth "Disks" "sync" m_Disks_sync (mVar 0) mNil))
  (mDo (mMeth "Disks" "fail_after" m_Disks_fail_after (mVar 0) (mCons (mC (.int 5)) mNil)))))
  (fun x => (mAug 1 (gI0 fun i j => .int (i + j)) (mCallB gInt (mCons (mIsX isK x "RotError") mNil))))))
  (mRet (mAndV (mBin (gEq false) (mVar 1) (mC (.int 3))) (mNotV (mMeth "Disks" "is_on" m_Disks_is_on (mVar 0) mNil))))))
noncomputable def m__law_dark : MF := mF 1 5 0 b__law_dark
theorem has__law_dark (T : Txt K mg) : Rw.Has P w K mg base (L2N.CX P w) 4 "_law_dark" ["_law_disks"] (spM ⟨K, mg⟩ m__law_dark) := by
  have h_Disks_fail_after := has_Disks_fail_after (P := P) (w := w) (base := base) T
  have h_Disks_is_on := has_Disks_is_on (P := P) (w := w) (base := base) T
  have h_Disks_sync := has_Disks_sync (P := P) (w := w) (base := base) T
  have h_Disks_write := has_Disks_write (P := P) (w := w) (base := base) T
  exact def_hasN (b := b__law_dark) 1 5 0 T._law_dark sc__law_dark rfl rfl (fun f cdv A outer s H E hr tk => (s_cons (s_set (j := 1) sc__law_dark.nd rfl (by first | exact Or.inl rfl | exact Or.inr rfl) e_int)
  (s_cons (s_for (passes_of rfl) rfl (i_range1 T.b_range (a_cons e_int a_nil)) (g_name (j := 2) sc__law_dark.nd rfl (by first | exact Or.inl rfl | exact Or.inr rfl))
  (s_one (s_tryAsN (j := 3) T.em T.x_PowerOff tk sc__law_dark.nd rfl rfl (fun _ _ _ tk _ => (s_one (s_if (t_eq hr (e_var (i := 2)) e_int)
  (s_one (s_do (e_methN h_Disks_write (hr.mono (by decide)) tk (e_var (i := 0)) (a_cons e_int (a_cons e_int (a_cons (e_lc (own := [("_law_k", 4)]) false (pt1_ok 4) rfl sc__law_dark.nd (i_range1 T.b_range (a_cons e_int a_nil)) (blkOk_by (own := [("_law_k", 4)]) (N := ["_law_disks", "_law_told", "_law_kind", "error", "_law_k"]) (sc := defScope (topS 11)) (by decide +kernel)) (fun _ _ _ _ _ => (pg_name (i := 4) sc__law_dark.nd rfl (by first | exact Or.inl rfl | exact Or.inr rfl))) (fun _ _ _ _ _ => ts_nil) (fun _ _ _ _ _ => e_int)) a_nil))))))
  (s_one (s_if (t_eq hr (e_var (i := 2)) e_int)
  (s_one (s_do (e_meth0N h_Disks_sync (hr.mono (by decide)) tk (e_var (i := 0)))))
  (s_one (s_do (e_methN h_Disks_fail_after (hr.mono (by decide)) tk (e_var (i := 0)) (a_cons e_int a_nil)))))))))
  (fun a oe cls d pn x z q => (Am.pss_one (p_aug (j := 1) sc__law_dark.nd rfl (by first | exact Or.inl rfl | exact Or.inr rfl) (p_int (pa_consP phi_lasts (p_isxO (j := 3) T.ix z q T.b_isinstance T.x_RotError) pa_nilP) T.b_int) ip_add (gI0_ok fun _ _ _ => rfl)))))))
  (s_one (s_ret (e_and (e_eq hr (e_var (i := 1)) e_int) (e_one (e_not (e_meth0N h_Disks_is_on (hr.mono (by decide)) tk (e_var (i := 0)))))))))))
noncomputable def b__law_one : MS := (mSeq (mSet 3 (mBin gMod (mBin gFdiv (mVar 2) (mC (.int 5))) (mC (.int 4))))
  (mSeq (mIf (mTst (mBin (gEq false) (mBin gMod (mVar 2) (mC (.int 5))) (mC (.int 0))))
  (mSeq (mDo (mMeth "Disks" "sync" m_Disks_sync (mVar 0) mNil))
  (mAugS (gI0 fun i j => .int (i + j)) (mVar 1) (mC (.int 2)) (mC (.int 1))))
  (mIf (mTst (mBin (gEq false) (mBin gMod (mVar 2) (mC (.int 5))) (mC (.int 1))))
  (mSeq (mAugS (gI0 fun i j => .int (i + j)) (mVar 1) (mC (.int 0)) (mCallB gInt (mCons (mMeth "Disks" "is_there" m_Disks_is_there (mVar 0) (mCons (mVar 3) mNil)) mNil)))
  (mSeq (mDo (mMeth "Disks" "ask" m_Disks_ask (mVar 0) (mCons (mVar 3) (mCons (mBin gMod (mBin gFdiv (mVar 2) (mC (.int 20))) (mC (.int 9))) mNil))))
  (mRet (mC (.int 0)))))
  (mSeq (mDo (mMeth "Disks" "write" m_Disks_write (mVar 0) (mCons (mVar 3) (mCons (mBin gMod (mBin gFdiv (mVar 2) (mC (.int 20))) (mC (.int 9))) (mCons (mLc false [4] (pt1 4) (iRng1M (mCons (mC (.int 32)) mNil)) mYes (mBin gMod (mVar 2) (mC (.int 256)))) mNil)))))
  (mAugS (gI0 fun i j => .int (i + j)) (mVar 1) (mC (.int 1)) (mCallB gInt (mCons (mMeth "Disks" "is_there" m_Disks_is_there (mVar 0) (mCons (mVar 3) mNil)) mNil))))))
  (mRet (mC (.int 1)))))
noncomputable def m__law_one : MF := mF 3 5 0 b__law_one
theorem has__law_one (T : Txt K mg) : Rw.Has P w K mg base (L2N.CX P w) 4 "_law_one" ["_law_disks", "_law_counts", "_law_number"] (spM ⟨K, mg⟩ m__law_one) := by
  have h_Disks_ask := has_Disks_ask (P := P) (w := w) (base := base) T
  have h_Disks_is_there := has_Disks_is_there (P := P) (w := w) (base := base) T
  have h_Disks_sync := has_Disks_sync (P := P) (w := w) (base := base) T
  have h_Disks_write := has_Disks_write (P := P) (w := w) (base := base) T
  exact def_hasN (b := b__law_one) 3 5 0 T._law_one sc__law_one rfl rfl (fun f cdv A outer s H E hr tk => (s_cons (s_set (j := 3) sc__law_one.nd rfl (by first | exact Or.inl rfl | exact Or.inr rfl) (e_mod (e_fdiv (e_var (i := 2)) e_int) e_int))
  (s_cons (s_if (t_eq hr (e_mod (e_var (i := 2)) e_int) e_int)
  (s_cons (s_do (e_meth0N h_Disks_sync (hr.mono (by decide)) tk (e_var (i := 0))))
  (s_one (s_augS hr (e_var (i := 1)) e_int e_int ip_add (gI0_ok fun _ _ _ => rfl) ⟨rfl, rfl⟩)))
  (s_one (s_if (t_eq hr (e_mod (e_var (i := 2)) e_int) e_int)
  (s_cons (s_augS hr (e_var (i := 1)) e_int (e_intc (a_cons (e_methN h_Disks_is_there (hr.mono (by decide)) tk (e_var (i := 0)) (a_cons (e_var (i := 3)) a_nil)) a_nil) T.b_int) ip_add (gI0_ok fun _ _ _ => rfl) ⟨rfl, rfl⟩)
  (s_cons (s_do (e_methN h_Disks_ask (hr.mono (by decide)) tk (e_var (i := 0)) (a_cons (e_var (i := 3)) (a_cons (e_mod (e_fdiv (e_var (i := 2)) e_int) e_int) a_nil))))
  (s_one (s_ret e_int))))
  (s_cons (s_do (e_methN h_Disks_write (hr.mono (by decide)) tk (e_var (i := 0)) (a_cons (e_var (i := 3)) (a_cons (e_mod (e_fdiv (e_var (i := 2)) e_int) e_int) (a_cons (e_lc (own := [("_law_k", 4)]) false (pt1_ok 4) rfl sc__law_one.nd (i_range1 T.b_range (a_cons e_int a_nil)) (blkOk_by (own := [("_law_k", 4)]) (N := ["_law_disks", "_law_counts", "_law_number", "_law_disk", "_law_k"]) (sc := defScope (topS 12)) (by decide +kernel)) (fun _ _ _ _ _ => (pg_name (i := 4) sc__law_one.nd rfl (by first | exact Or.inl rfl | exact Or.inr rfl))) (fun _ _ _ _ _ => ts_nil) (fun _ _ _ _ _ => (e_mod (e_var (i := 2)) e_int))) a_nil)))))
  (s_one (s_augS hr (e_var (i := 1)) e_int (e_intc (a_cons (e_methN h_Disks_is_there (hr.mono (by decide)) tk (e_var (i := 0)) (a_cons (e_var (i := 3)) a_nil)) a_nil) T.b_int) ip_add (gI0_ok fun _ _ _ => rfl) ⟨rfl, rfl⟩))))))
  (s_one (s_ret e_int)))))
end
end Lw
namespace Lw
open PySem PySem.Spec PyProof.Rows L2 Am
section
variable {P : Program} {w : World} {K : PySem.W.Frag} {mg : Str → Option Value} {base : Heap}
noncomputable def b_law : MS := (mSeq (mIf (mNot (mTru (mCall m__law_wrong (mCons (mBin gMod (mCall m__law_draw (mCons (mVar 0) (mCons (mC (.int 0)) mNil))) (mC (.int 100))) mNil))))
  (mRet (mC (.bl false)))
  mSkip)
  (mSeq (mSet 1 (mMake "Disks" m_Disks___init__ (mCons (mC (.int 4)) (mCons (mC (.int 48)) (mCons (mC (.int 2)) (mCons (mC (.int 1)) mNil))))))
  (mSeq (mDo (mMeth "Disks" "away" m_Disks_away (mVar 1) (mCons (mBin gMod (mCall m__law_draw (mCons (mVar 0) (mCons (mC (.int 1)) mNil))) (mC (.int 4))) mNil)))
  (mSeq (mSet 2 (mBin gMod (mCall m__law_draw (mCons (mVar 0) (mCons (mC (.int 2)) mNil))) (mC (.int 13))))
  (mSeq (mDo (mMeth "Disks" "fail_after" m_Disks_fail_after (mVar 1) (mCons (mC (.int 90)) mNil)))
  (mSeq (mDo (mMeth "Disks" "fail_after" m_Disks_fail_after (mVar 1) (mCons (mVar 2) mNil)))
  (mSeq (mSet 3 (mList true (mCons (mC (.int 0)) (mCons (mC (.int 0)) (mCons (mC (.int 0)) mNil)))))
  (mSeq (mFor (iRng1M (mCons (mBin (gAdd false) (mC (.int 1)) (mCallB gMin (mCons (mC (.int 30)) (mCons (mCallB gLen (mCons (mVar 0) mNil)) mNil)))) mNil)) (kName 4)
  (mSeq (mSet 5 (mCall m__law_draw (mCons (mVar 0) (mCons (mVar 4) mNil))))
  (mSeq (mTry isE "PowerOff"
  (mSeq (mSet 2 (mBin gSub (mVar 2) (mCall m__law_one (mCons (mVar 1) (mCons (mVar 3) (mCons (mVar 5) mNil))))))
  (mIf (mOr (mTst (mBin gLt (mVar 2) (mC (.int 0)))) (mTst (mBin (gEq true) (mMeth "Disks" "losses" m_Disks_losses (mVar 1) mNil) (mC (.int 0)))))
  (mRet (mC (.bl false)))
  mSkip))
  (mSeq (mIf (mOr (mTst (mBin (gEq true) (mVar 2) (mC (.int 0)))) (mOr (mTst (mBin (gEq true) (mMeth "Disks" "losses" mh_Disks_losses (mVar 1) mNil) (mC (.int 1)))) (mOr (mNot (mTru (mCall mh__law_dark (mCons (mVar 1) mNil)))) (mTst (mBin (gEq true) (mMeth "Disks" "counts" mh_Disks_counts (mVar 1) mNil) (mCallB gTupOf (mCons (mVar 3) mNil)))))))
  (mRet (mC (.bl false)))
  mSkip)
  (mSeq (mDo (mMeth "Disks" "power" mh_Disks_power (mVar 1) (mCons (mList false mNil) mNil)))
  (mRet (mAndV (mMeth "Disks" "is_on" mh_Disks_is_on (mVar 1) mNil) (mAndV (mBin (gEq false) (mMeth "Disks" "losses" mh_Disks_losses (mVar 1) mNil) (mC (.int 1))) (mBin (gEq false) (mMeth "Disks" "counts" mh_Disks_counts (mVar 1) mNil) (mCallB gTupOf (mCons (mVar 3) mNil)))))))))
  (mIf (mTst (mBin (gEq true) (mMeth "Disks" "counts" m_Disks_counts (mVar 1) mNil) (mCallB gTupOf (mCons (mVar 3) mNil))))
  (mRet (mC (.bl false)))
  mSkip))))
  (mSeq (mDo (mMeth "Disks" "power" m_Disks_power (mVar 1) (mCons (mList false mNil) mNil)))
  (mRet (mAndV (mMeth "Disks" "is_on" m_Disks_is_on (mVar 1) mNil) (mAndV (mBin (gEq false) (mMeth "Disks" "losses" m_Disks_losses (mVar 1) mNil) (mC (.int 1))) (mBin (gEq false) (mMeth "Disks" "counts" m_Disks_counts (mVar 1) mNil) (mCallB gTupOf (mCons (mVar 3) mNil)))))))))))))))
noncomputable def m_law : MF := mF 1 6 2 b_law
theorem has_law (T : Txt K mg) : Rw.Has P w K mg base (L2N.CX P w) 5 "law" ["_law_script"] (spM ⟨K, mg⟩ m_law) := by
  have h_Disks___init__ := has_Disks___init__ (P := P) (w := w) (base := base) T
  have h_Disks_away := has_Disks_away (P := P) (w := w) (base := base) T
  have h_Disks_counts := has_Disks_counts (P := P) (w := w) (base := base) T
  have h_Disks_fail_after := has_Disks_fail_after (P := P) (w := w) (base := base) T
  have h_Disks_is_on := has_Disks_is_on (P := P) (w := w) (base := base) T
  have h_Disks_losses := has_Disks_losses (P := P) (w := w) (base := base) T
  have h_Disks_power := has_Disks_power (P := P) (w := w) (base := base) T
  have h__law_draw := has__law_draw (P := P) (w := w) (base := base) T
  have h__law_one := has__law_one (P := P) (w := w) (base := base) T
  have h__law_wrong := has__law_wrong (P := P) (w := w) (base := base) T
  have hh_Disks_counts := hash_Disks_counts (P := P) (w := w) (base := base) T
  have hh_Disks_is_on := hash_Disks_is_on (P := P) (w := w) (base := base) T
  have hh_Disks_losses := hash_Disks_losses (P := P) (w := w) (base := base) T
  have hh_Disks_power := hash_Disks_power (P := P) (w := w) (base := base) T
  have hh__law_dark := hash__law_dark (P := P) (w := w) (base := base) T
  exact def_hasN (b := b_law) 1 6 2 T.law sc_law rfl rfl (fun f cdv A outer s H E hr tk => (s_cons (s_if (t_not (t_tru (e_callN h__law_wrong (hr.mono (by decide)) tk (a_cons (e_mod (e_callN h__law_draw (hr.mono (by decide)) tk (a_cons (e_var (i := 0)) (a_cons e_int a_nil))) e_int) a_nil))))
  (s_one (s_ret e_bl))
  s_nil)
  (s_cons (s_set (j := 1) sc_law.nd rfl (by first | exact Or.inl rfl | exact Or.inr rfl) (e_makeN h_Disks___init__ T.mk_Disks (hr.mono (by decide)) tk (a_cons e_int (a_cons e_int (a_cons e_int (a_cons e_int a_nil))))))
  (s_cons (s_do (e_methN h_Disks_away (hr.mono (by decide)) tk (e_var (i := 1)) (a_cons (e_mod (e_callN h__law_draw (hr.mono (by decide)) tk (a_cons (e_var (i := 0)) (a_cons e_int a_nil))) e_int) a_nil)))
  (s_cons (s_set (j := 2) sc_law.nd rfl (by first | exact Or.inl rfl | exact Or.inr rfl) (e_mod (e_callN h__law_draw (hr.mono (by decide)) tk (a_cons (e_var (i := 0)) (a_cons e_int a_nil))) e_int))
  (s_cons (s_do (e_methN h_Disks_fail_after (hr.mono (by decide)) tk (e_var (i := 1)) (a_cons e_int a_nil)))
  (s_cons (s_do (e_methN h_Disks_fail_after (hr.mono (by decide)) tk (e_var (i := 1)) (a_cons (e_var (i := 2)) a_nil)))
  (s_cons (s_set (j := 3) sc_law.nd rfl (by first | exact Or.inl rfl | exact Or.inr rfl) (e_list true (a_cons e_int (a_cons e_int (a_cons e_int a_nil)))))
  (s_cons (s_for (passes_of rfl) rfl (i_range1 T.b_range (a_cons (e_add false e_int (e_min rfl (a_cons e_int (a_cons (e_len (a_cons (e_var (i := 0)) a_nil) T.b_len) a_nil)) T.b_min)) a_nil)) (g_name (j := 4) sc_law.nd rfl (by first | exact Or.inl rfl | exact Or.inr rfl))
  (s_cons (s_set (j := 5) sc_law.nd rfl (by first | exact Or.inl rfl | exact Or.inr rfl) (e_callN h__law_draw (hr.mono (by decide)) tk (a_cons (e_var (i := 0)) (a_cons (e_var (i := 4)) a_nil))))
  (s_cons (s_tryN T.em T.x_PowerOff tk (fun _ _ _ tk _ => (s_cons (s_set (j := 2) sc_law.nd rfl (by first | exact Or.inl rfl | exact Or.inr rfl) (e_sub (e_var (i := 2)) (e_callN h__law_one (hr.mono (by decide)) tk (a_cons (e_var (i := 1)) (a_cons (e_var (i := 3)) (a_cons (e_var (i := 5)) a_nil))))))
  (s_one (s_if (t_bool (w_or (t_lt (e_var (i := 2)) e_int) (w_or1 (t_ne hr (e_meth0N h_Disks_losses (hr.mono (by decide)) tk (e_var (i := 1))) e_int))))
  (s_one (s_ret e_bl))
  s_nil))))
  (fun _ _ _ hot => (s_cons (s_if (t_bool (w_or (t_neH (room_suite hr) (e_var (i := 2)) e_int) (w_or (t_neH (room_suite hr) (e_meth0H hh_Disks_losses ((room_suite hr).mono (by decide)) hot Am.takes0 (e_var (i := 1))) e_int) (w_or (t_not (t_tru (e_callH hh__law_dark ((room_suite hr).mono (by decide)) hot Am.takes0 (a_cons (e_var (i := 1)) a_nil)))) (w_or1 (t_neH (room_suite hr) (e_meth0H hh_Disks_counts ((room_suite hr).mono (by decide)) hot Am.takes0 (e_var (i := 1))) (e_tuplec (a_cons (e_var (i := 3)) a_nil) T.b_tuple)))))))
  (s_one (s_ret e_bl))
  s_nil)
  (s_cons (s_do (e_methH hh_Disks_power ((room_suite hr).mono (by decide)) hot Am.takes0 (e_var (i := 1)) (a_cons (e_list false a_nil) a_nil)))
  (s_one (s_ret (e_and (e_meth0H hh_Disks_is_on ((room_suite hr).mono (by decide)) hot Am.takes0 (e_var (i := 1))) (e_and (e_eqH (room_suite hr) (e_meth0H hh_Disks_losses ((room_suite hr).mono (by decide)) hot Am.takes0 (e_var (i := 1))) e_int) (e_one (e_eqH (room_suite hr) (e_meth0H hh_Disks_counts ((room_suite hr).mono (by decide)) hot Am.takes0 (e_var (i := 1))) (e_tuplec (a_cons (e_var (i := 3)) a_nil) T.b_tuple)))))))))))
  (s_one (s_if (t_ne hr (e_meth0N h_Disks_counts (hr.mono (by decide)) tk (e_var (i := 1))) (e_tuplec (a_cons (e_var (i := 3)) a_nil) T.b_tuple))
  (s_one (s_ret e_bl))
  s_nil)))))
  (s_cons (s_do (e_methN h_Disks_power (hr.mono (by decide)) tk (e_var (i := 1)) (a_cons (e_list false a_nil) a_nil)))
  (s_one (s_ret (e_and (e_meth0N h_Disks_is_on (hr.mono (by decide)) tk (e_var (i := 1))) (e_and (e_eq hr (e_meth0N h_Disks_losses (hr.mono (by decide)) tk (e_var (i := 1))) e_int) (e_one (e_eq hr (e_meth0N h_Disks_counts (hr.mono (by decide)) tk (e_var (i := 1))) (e_tuplec (a_cons (e_var (i := 3)) a_nil) T.b_tuple)))))))))))))))))
end
end Lw
namespace Lw
open PySem PySem.Spec PyProof.Rows L2 Am
section
variable {P : Program} {w : World} {K : PySem.W.Frag} {mg : Str → Option Value} {base : Heap}
/-- the attributes of an instance of Disks -/
def F_Disks (a0 a1 a2 a3 a4 a5 a6 a7 a8 a9 a10 a11 a12 : A) : List (Str × A) := [("_sizes", a0), ("_media", a1), ("_waiting", a2), ("_there", a3), ("_powered", a4), ("_fuse", a5), ("_losses", a6), ("_reads", a7), ("_writes", a8), ("_syncs", a9), ("in_use", a10), ("formatted", a11), ("scrub_place", a12)]
theorem lk_Disks_0 (a0 a1 a2 a3 a4 a5 a6 a7 a8 a9 a10 a11 a12 : A) : List.lookup ("_sizes" : Str) (F_Disks a0 a1 a2 a3 a4 a5 a6 a7 a8 a9 a10 a11 a12) = some a0 := rfl
theorem pm_Disks_0 (a0 a1 a2 a3 a4 a5 a6 a7 a8 a9 a10 a11 a12 b : A) : putM "_sizes" b (F_Disks a0 a1 a2 a3 a4 a5 a6 a7 a8 a9 a10 a11 a12) = F_Disks b a1 a2 a3 a4 a5 a6 a7 a8 a9 a10 a11 a12 := rfl
theorem if_Disks_0 : isF "Disks" "_sizes" = true := by decide +kernel
theorem fr_Disks_0 (a0 a1 a2 a3 a4 a5 a6 a7 a8 a9 a10 a11 a12 : A) (st : Store) : fldI isF "_sizes" (some ("Disks", F_Disks a0 a1 a2 a3 a4 a5 a6 a7 a8 a9 a10 a11 a12)) st = .ok a0 st := by rw [fldI_some isF _ _ _ _ if_Disks_0, lk_Disks_0]; rfl
theorem fw_Disks_0 (a0 a1 a2 a3 a4 a5 a6 a7 a8 a9 a10 a11 a12 b : A) (i : Nat) (σ : Slots) (st : Store) : fsC isF "_sizes" (some (.ins "Disks" (F_Disks a0 a1 a2 a3 a4 a5 a6 a7 a8 a9 a10 a11 a12))) i b σ st = .nx σ (st.set i (.ins "Disks" (F_Disks b a1 a2 a3 a4 a5 a6 a7 a8 a9 a10 a11 a12))) := fsC_ins isF _ _ _ _ _ _ _ ⟨if_Disks_0, by show (13 : Nat) < 1000; decide⟩
theorem fa_Disks_0 (a0 a1 a2 a3 a4 a5 a6 a7 a8 a9 a10 a11 a12 b c0 c1 c2 c3 c4 c5 c6 c7 c8 c9 c10 c11 c12 : A) (i : Nat) (σ : Slots) (st : Store) : faC isF "_sizes" (some (.ins "Disks" (F_Disks a0 a1 a2 a3 a4 a5 a6 a7 a8 a9 a10 a11 a12))) (some (.ins "Disks" (F_Disks c0 c1 c2 c3 c4 c5 c6 c7 c8 c9 c10 c11 c12))) i b σ st = .nx σ (st.set i (.ins "Disks" (F_Disks b a1 a2 a3 a4 a5 a6 a7 a8 a9 a10 a11 a12))) := faC_ins isF _ _ _ _ _ _ _ _ ⟨if_Disks_0, by show (13 : Nat) < 1000; decide⟩ rfl
theorem lk_Disks_1 (a0 a1 a2 a3 a4 a5 a6 a7 a8 a9 a10 a11 a12 : A) : List.lookup ("_media" : Str) (F_Disks a0 a1 a2 a3 a4 a5 a6 a7 a8 a9 a10 a11 a12) = some a1 := rfl
theorem pm_Disks_1 (a0 a1 a2 a3 a4 a5 a6 a7 a8 a9 a10 a11 a12 b : A) : putM "_media" b (F_Disks a0 a1 a2 a3 a4 a5 a6 a7 a8 a9 a10 a11 a12) = F_Disks a0 b a2 a3 a4 a5 a6 a7 a8 a9 a10 a11 a12 := rfl
theorem if_Disks_1 : isF "Disks" "_media" = true := by decide +kernel
theorem fr_Disks_1 (a0 a1 a2 a3 a4 a5 a6 a7 a8 a9 a10 a11 a12 : A) (st : Store) : fldI isF "_media" (some ("Disks", F_Disks a0 a1 a2 a3 a4 a5 a6 a7 a8 a9 a10 a11 a12)) st = .ok a1 st := by rw [fldI_some isF _ _ _ _ if_Disks_1, lk_Disks_1]; rfl
theorem fw_Disks_1 (a0 a1 a2 a3 a4 a5 a6 a7 a8 a9 a10 a11 a12 b : A) (i : Nat) (σ : Slots) (st : Store) : fsC isF "_media" (some (.ins "Disks" (F_Disks a0 a1 a2 a3 a4 a5 a6 a7 a8 a9 a10 a11 a12))) i b σ st = .nx σ (st.set i (.ins "Disks" (F_Disks a0 b a2 a3 a4 a5 a6 a7 a8 a9 a10 a11 a12))) := fsC_ins isF _ _ _ _ _ _ _ ⟨if_Disks_1, by show (13 : Nat) < 1000; decide⟩
theorem fa_Disks_1 (a0 a1 a2 a3 a4 a5 a6 a7 a8 a9 a10 a11 a12 b c0 c1 c2 c3 c4 c5 c6 c7 c8 c9 c10 c11 c12 : A) (i : Nat) (σ : Slots) (st : Store) : faC isF "_media" (some (.ins "Disks" (F_Disks a0 a1 a2 a3 a4 a5 a6 a7 a8 a9 a10 a11 a12))) (some (.ins "Disks" (F_Disks c0 c1 c2 c3 c4 c5 c6 c7 c8 c9 c10 c11 c12))) i b σ st = .nx σ (st.set i (.ins "Disks" (F_Disks a0 b a2 a3 a4 a5 a6 a7 a8 a9 a10 a11 a12))) := faC_ins isF _ _ _ _ _ _ _ _ ⟨if_Disks_1, by show (13 : Nat) < 1000; decide⟩ rfl
theorem lk_Disks_2 (a0 a1 a2 a3 a4 a5 a6 a7 a8 a9 a10 a11 a12 : A) : List.lookup ("_waiting" : Str) (F_Disks a0 a1 a2 a3 a4 a5 a6 a7 a8 a9 a10 a11 a12) = some a2 := rfl
theorem pm_Disks_2 (a0 a1 a2 a3 a4 a5 a6 a7 a8 a9 a10 a11 a12 b : A) : putM "_waiting" b (F_Disks a0 a1 a2 a3 a4 a5 a6 a7 a8 a9 a10 a11 a12) = F_Disks a0 a1 b a3 a4 a5 a6 a7 a8 a9 a10 a11 a12 := rfl
theorem if_Disks_2 : isF "Disks" "_waiting" = true := by decide +kernel
theorem fr_Disks_2 (a0 a1 a2 a3 a4 a5 a6 a7 a8 a9 a10 a11 a12 : A) (st : Store) : fldI isF "_waiting" (some ("Disks", F_Disks a0 a1 a2 a3 a4 a5 a6 a7 a8 a9 a10 a11 a12)) st = .ok a2 st := by rw [fldI_some isF _ _ _ _ if_Disks_2, lk_Disks_2]; rfl
theorem fw_Disks_2 (a0 a1 a2 a3 a4 a5 a6 a7 a8 a9 a10 a11 a12 b : A) (i : Nat) (σ : Slots) (st : Store) : fsC isF "_waiting" (some (.ins "Disks" (F_Disks a0 a1 a2 a3 a4 a5 a6 a7 a8 a9 a10 a11 a12))) i b σ st = .nx σ (st.set i (.ins "Disks" (F_Disks a0 a1 b a3 a4 a5 a6 a7 a8 a9 a10 a11 a12))) := fsC_ins isF _ _ _ _ _ _ _ ⟨if_Disks_2, by show (13 : Nat) < 1000; decide⟩
theorem fa_Disks_2 (a0 a1 a2 a3 a4 a5 a6 a7 a8 a9 a10 a11 a12 b c0 c1 c2 c3 c4 c5 c6 c7 c8 c9 c10 c11 c12 : A) (i : Nat) (σ : Slots) (st : Store) : faC isF "_waiting" (some (.ins "Disks" (F_Disks a0 a1 a2 a3 a4 a5 a6 a7 a8 a9 a10 a11 a12))) (some (.ins "Disks" (F_Disks c0 c1 c2 c3 c4 c5 c6 c7 c8 c9 c10 c11 c12))) i b σ st = .nx σ (st.set i (.ins "Disks" (F_Disks a0 a1 b a3 a4 a5 a6 a7 a8 a9 a10 a11 a12))) := faC_ins isF _ _ _ _ _ _ _ _ ⟨if_Disks_2, by show (13 : Nat) < 1000; decide⟩ rfl
theorem lk_Disks_3 (a0 a1 a2 a3 a4 a5 a6 a7 a8 a9 a10 a11 a12 : A) : List.lookup ("_there" : Str) (F_Disks a0 a1 a2 a3 a4 a5 a6 a7 a8 a9 a10 a11 a12) = some a3 := rfl
theorem pm_Disks_3 (a0 a1 a2 a3 a4 a5 a6 a7 a8 a9 a10 a11 a12 b : A) : putM "_there" b (F_Disks a0 a1 a2 a3 a4 a5 a6 a7 a8 a9 a10 a11 a12) = F_Disks a0 a1 a2 b a4 a5 a6 a7 a8 a9 a10 a11 a12 := rfl
theorem if_Disks_3 : isF "Disks" "_there" = true := by decide +kernel
theorem fr_Disks_3 (a0 a1 a2 a3 a4 a5 a6 a7 a8 a9 a10 a11 a12 : A) (st : Store) : fldI isF "_there" (some ("Disks", F_Disks a0 a1 a2 a3 a4 a5 a6 a7 a8 a9 a10 a11 a12)) st = .ok a3 st := by rw [fldI_some isF _ _ _ _ if_Disks_3, lk_Disks_3]; rfl
theorem fw_Disks_3 (a0 a1 a2 a3 a4 a5 a6 a7 a8 a9 a10 a11 a12 b : A) (i : Nat) (σ : Slots) (st : Store) : fsC isF "_there" (some (.ins "Disks" (F_Disks a0 a1 a2 a3 a4 a5 a6 a7 a8 a9 a10 a11 a12))) i b σ st = .nx σ (st.set i (.ins "Disks" (F_Disks a0 a1 a2 b a4 a5 a6 a7 a8 a9 a10 a11 a12))) := fsC_ins isF _ _ _ _ _ _ _ ⟨if_Disks_3, by show (13 : Nat) < 1000; decide⟩
theorem fa_Disks_3 (a0 a1 a2 a3 a4 a5 a6 a7 a8 a9 a10 a11 a12 b c0 c1 c2 c3 c4 c5 c6 c7 c8 c9 c10 c11 c12 : A) (i : Nat) (σ : Slots) (st : Store) : faC isF "_there" (some (.ins "Disks" (F_Disks a0 a1 a2 a3 a4 a5 a6 a7 a8 a9 a10 a11 a12))) (some (.ins "Disks" (F_Disks c0 c1 c2 c3 c4 c5 c6 c7 c8 c9 c10 c11 c12))) i b σ st = .nx σ (st.set i (.ins "Disks" (F_Disks a0 a1 a2 b a4 a5 a6 a7 a8 a9 a10 a11 a12))) := faC_ins isF _ _ _ _ _ _ _ _ ⟨if_Disks_3, by show (13 : Nat) < 1000; decide⟩ rfl
theorem lk_Disks_4 (a0 a1 a2 a3 a4 a5 a6 a7 a8 a9 a10 a11 a12 : A) : List.lookup ("_powered" : Str) (F_Disks a0 a1 a2 a3 a4 a5 a6 a7 a8 a9 a10 a11 a12) = some a4 := rfl
theorem pm_Disks_4 (a0 a1 a2 a3 a4 a5 a6 a7 a8 a9 a10 a11 a12 b : A) : putM "_powered" b (F_Disks a0 a1 a2 a3 a4 a5 a6 a7 a8 a9 a10 a11 a12) = F_Disks a0 a1 a2 a3 b a5 a6 a7 a8 a9 a10 a11 a12 := rfl
theorem if_Disks_4 : isF "Disks" "_powered" = true := by decide +kernel
theorem fr_Disks_4 (a0 a1 a2 a3 a4 a5 a6 a7 a8 a9 a10 a11 a12 : A) (st : Store) : fldI isF "_powered" (some ("Disks", F_Disks a0 a1 a2 a3 a4 a5 a6 a7 a8 a9 a10 a11 a12)) st = .ok a4 st := by rw [fldI_some isF _ _ _ _ if_Disks_4, lk_Disks_4]; rfl
theorem fw_Disks_4 (a0 a1 a2 a3 a4 a5 a6 a7 a8 a9 a10 a11 a12 b : A) (i : Nat) (σ : Slots) (st : Store) : fsC isF "_powered" (some (.ins "Disks" (F_Disks a0 a1 a2 a3 a4 a5 a6 a7 a8 a9 a10 a11 a12))) i b σ st = .nx σ (st.set i (.ins "Disks" (F_Disks a0 a1 a2 a3 b a5 a6 a7 a8 a9 a10 a11 a12))) := fsC_ins isF _ _ _ _ _ _ _ ⟨if_Disks_4, by show (13 : Nat) < 1000; decide⟩
theorem fa_Disks_4 (a0 a1 a2 a3 a4 a5 a6 a7 a8 a9 a10 a11 a12 b c0 c1 c2 c3 c4 c5 c6 c7 c8 c9 c10 c11 c12 : A) (i : Nat) (σ : Slots) (st : Store) : faC isF "_powered" (some (.ins "Disks" (F_Disks a0 a1 a2 a3 a4 a5 a6 a7 a8 a9 a10 a11 a12))) (some (.ins "Disks" (F_Disks c0 c1 c2 c3 c4 c5 c6 c7 c8 c9 c10 c11 c12))) i b σ st = .nx σ (st.set i (.ins "Disks" (F_Disks a0 a1 a2 a3 b a5 a6 a7 a8 a9 a10 a11 a12))) := faC_ins isF _ _ _ _ _ _ _ _ ⟨if_Disks_4, by show (13 : Nat) < 1000; decide⟩ rfl
theorem lk_Disks_5 (a0 a1 a2 a3 a4 a5 a6 a7 a8 a9 a10 a11 a12 : A) : List.lookup ("_fuse" : Str) (F_Disks a0 a1 a2 a3 a4 a5 a6 a7 a8 a9 a10 a11 a12) = some a5 := rfl
theorem pm_Disks_5 (a0 a1 a2 a3 a4 a5 a6 a7 a8 a9 a10 a11 a12 b : A) : putM "_fuse" b (F_Disks a0 a1 a2 a3 a4 a5 a6 a7 a8 a9 a10 a11 a12) = F_Disks a0 a1 a2 a3 a4 b a6 a7 a8 a9 a10 a11 a12 := rfl
theorem if_Disks_5 : isF "Disks" "_fuse" = true := by decide +kernel
theorem fr_Disks_5 (a0 a1 a2 a3 a4 a5 a6 a7 a8 a9 a10 a11 a12 : A) (st : Store) : fldI isF "_fuse" (some ("Disks", F_Disks a0 a1 a2 a3 a4 a5 a6 a7 a8 a9 a10 a11 a12)) st = .ok a5 st := by rw [fldI_some isF _ _ _ _ if_Disks_5, lk_Disks_5]; rfl
theorem fw_Disks_5 (a0 a1 a2 a3 a4 a5 a6 a7 a8 a9 a10 a11 a12 b : A) (i : Nat) (σ : Slots) (st : Store) : fsC isF "_fuse" (some (.ins "Disks" (F_Disks a0 a1 a2 a3 a4 a5 a6 a7 a8 a9 a10 a11 a12))) i b σ st = .nx σ (st.set i (.ins "Disks" (F_Disks a0 a1 a2 a3 a4 b a6 a7 a8 a9 a10 a11 a12))) := fsC_ins isF _ _ _ _ _ _ _ ⟨if_Disks_5, by show (13 : Nat) < 1000; decide⟩
theorem fa_Disks_5 (a0 a1 a2 a3 a4 a5 a6 a7 a8 a9 a10 a11 a12 b c0 c1 c2 c3 c4 c5 c6 c7 c8 c9 c10 c11 c12 : A) (i : Nat) (σ : Slots) (st : Store) : faC isF "_fuse" (some (.ins "Disks" (F_Disks a0 a1 a2 a3 a4 a5 a6 a7 a8 a9 a10 a11 a12))) (some (.ins "Disks" (F_Disks c0 c1 c2 c3 c4 c5 c6 c7 c8 c9 c10 c11 c12))) i b σ st = .nx σ (st.set i (.ins "Disks" (F_Disks a0 a1 a2 a3 a4 b a6 a7 a8 a9 a10 a11 a12))) := faC_ins isF _ _ _ _ _ _ _ _ ⟨if_Disks_5, by show (13 : Nat) < 1000; decide⟩ rfl
theorem lk_Disks_6 (a0 a1 a2 a3 a4 a5 a6 a7 a8 a9 a10 a11 a12 : A) : List.lookup ("_losses" : Str) (F_Disks a0 a1 a2 a3 a4 a5 a6 a7 a8 a9 a10 a11 a12) = some a6 := rfl
theorem pm_Disks_6 (a0 a1 a2 a3 a4 a5 a6 a7 a8 a9 a10 a11 a12 b : A) : putM "_losses" b (F_Disks a0 a1 a2 a3 a4 a5 a6 a7 a8 a9 a10 a11 a12) = F_Disks a0 a1 a2 a3 a4 a5 b a7 a8 a9 a10 a11 a12 := rfl
theorem if_Disks_6 : isF "Disks" "_losses" = true := by decide +kernel
theorem fr_Disks_6 (a0 a1 a2 a3 a4 a5 a6 a7 a8 a9 a10 a11 a12 : A) (st : Store) : fldI isF "_losses" (some ("Disks", F_Disks a0 a1 a2 a3 a4 a5 a6 a7 a8 a9 a10 a11 a12)) st = .ok a6 st := by rw [fldI_some isF _ _ _ _ if_Disks_6, lk_Disks_6]; rfl
theorem fw_Disks_6 (a0 a1 a2 a3 a4 a5 a6 a7 a8 a9 a10 a11 a12 b : A) (i : Nat) (σ : Slots) (st : Store) : fsC isF "_losses" (some (.ins "Disks" (F_Disks a0 a1 a2 a3 a4 a5 a6 a7 a8 a9 a10 a11 a12))) i b σ st = .nx σ (st.set i (.ins "Disks" (F_Disks a0 a1 a2 a3 a4 a5 b a7 a8 a9 a10 a11 a12))) := fsC_ins isF _ _ _ _ _ _ _ ⟨if_Disks_6, by show (13 : Nat) < 1000; decide⟩
theorem fa_Disks_6 (a0 a1 a2 a3 a4 a5 a6 a7 a8 a9 a10 a11 a12 b c0 c1 c2 c3 c4 c5 c6 c7 c8 c9 c10 c11 c12 : A) (i : Nat) (σ : Slots) (st : Store) : faC isF "_losses" (some (.ins "Disks" (F_Disks a0 a1 a2 a3 a4 a5 a6 a7 a8 a9 a10 a11 a12))) (some (.ins "Disks" (F_Disks c0 c1 c2 c3 c4 c5 c6 c7 c8 c9 c10 c11 c12))) i b σ st = .nx σ (st.set i (.ins "Disks" (F_Disks a0 a1 a2 a3 a4 a5 b a7 a8 a9 a10 a11 a12))) := faC_ins isF _ _ _ _ _ _ _ _ ⟨if_Disks_6, by show (13 : Nat) < 1000; decide⟩ rfl
theorem lk_Disks_7 (a0 a1 a2 a3 a4 a5 a6 a7 a8 a9 a10 a11 a12 : A) : List.lookup ("_reads" : Str) (F_Disks a0 a1 a2 a3 a4 a5 a6 a7 a8 a9 a10 a11 a12) = some a7 := rfl
theorem pm_Disks_7 (a0 a1 a2 a3 a4 a5 a6 a7 a8 a9 a10 a11 a12 b : A) : putM "_reads" b (F_Disks a0 a1 a2 a3 a4 a5 a6 a7 a8 a9 a10 a11 a12) = F_Disks a0 a1 a2 a3 a4 a5 a6 b a8 a9 a10 a11 a12 := rfl
theorem if_Disks_7 : isF "Disks" "_reads" = true := by decide +kernel
theorem fr_Disks_7 (a0 a1 a2 a3 a4 a5 a6 a7 a8 a9 a10 a11 a12 : A) (st : Store) : fldI isF "_reads" (some ("Disks", F_Disks a0 a1 a2 a3 a4 a5 a6 a7 a8 a9 a10 a11 a12)) st = .ok a7 st := by rw [fldI_some isF _ _ _ _ if_Disks_7, lk_Disks_7]; rfl
theorem fw_Disks_7 (a0 a1 a2 a3 a4 a5 a6 a7 a8 a9 a10 a11 a12 b : A) (i : Nat) (σ : Slots) (st : Store) : fsC isF "_reads" (some (.ins "Disks" (F_Disks a0 a1 a2 a3 a4 a5 a6 a7 a8 a9 a10 a11 a12))) i b σ st = .nx σ (st.set i (.ins "Disks" (F_Disks a0 a1 a2 a3 a4 a5 a6 b a8 a9 a10 a11 a12))) := fsC_ins isF _ _ _ _ _ _ _ ⟨if_Disks_7, by show (13 : Nat) < 1000; decide⟩
theorem fa_Disks_7 (a0 a1 a2 a3 a4 a5 a6 a7 a8 a9 a10 a11 a12 b c0 c1 c2 c3 c4 c5 c6 c7 c8 c9 c10 c11 c12 : A) (i : Nat) (σ : Slots) (st : Store) : faC isF "_reads" (some (.ins "Disks" (F_Disks a0 a1 a2 a3 a4 a5 a6 a7 a8 a9 a10 a11 a12))) (some (.ins "Disks" (F_Disks c0 c1 c2 c3 c4 c5 c6 c7 c8 c9 c10 c11 c12))) i b σ st = .nx σ (st.set i (.ins "Disks" (F_Disks a0 a1 a2 a3 a4 a5 a6 b a8 a9 a10 a11 a12))) := faC_ins isF _ _ _ _ _ _ _ _ ⟨if_Disks_7, by show (13 : Nat) < 1000; decide⟩ rfl
theorem lk_Disks_8 (a0 a1 a2 a3 a4 a5 a6 a7 a8 a9 a10 a11 a12 : A) : List.lookup ("_writes" : Str) (F_Disks a0 a1 a2 a3 a4 a5 a6 a7 a8 a9 a10 a11 a12) = some a8 := rfl
theorem pm_Disks_8 (a0 a1 a2 a3 a4 a5 a6 a7 a8 a9 a10 a11 a12 b : A) : putM "_writes" b (F_Disks a0 a1 a2 a3 a4 a5 a6 a7 a8 a9 a10 a11 a12) = F_Disks a0 a1 a2 a3 a4 a5 a6 a7 b a9 a10 a11 a12 := rfl
theorem if_Disks_8 : isF "Disks" "_writes" = true := by decide +kernel
theorem fr_Disks_8 (a0 a1 a2 a3 a4 a5 a6 a7 a8 a9 a10 a11 a12 : A) (st : Store) : fldI isF "_writes" (some ("Disks", F_Disks a0 a1 a2 a3 a4 a5 a6 a7 a8 a9 a10 a11 a12)) st = .ok a8 st := by rw [fldI_some isF _ _ _ _ if_Disks_8, lk_Disks_8]; rfl
theorem fw_Disks_8 (a0 a1 a2 a3 a4 a5 a6 a7 a8 a9 a10 a11 a12 b : A) (i : Nat) (σ : Slots) (st : Store) : fsC isF "_writes" (some (.ins "Disks" (F_Disks a0 a1 a2 a3 a4 a5 a6 a7 a8 a9 a10 a11 a12))) i b σ st = .nx σ (st.set i (.ins "Disks" (F_Disks a0 a1 a2 a3 a4 a5 a6 a7 b a9 a10 a11 a12))) := fsC_ins isF _ _ _ _ _ _ _ ⟨if_Disks_8, by show (13 : Nat) < 1000; decide⟩
theorem fa_Disks_8 (a0 a1 a2 a3 a4 a5 a6 a7 a8 a9 a10 a11 a12 b c0 c1 c2 c3 c4 c5 c6 c7 c8 c9 c10 c11 c12 : A) (i : Nat) (σ : Slots) (st : Store) : faC isF "_writes" (some (.ins "Disks" (F_Disks a0 a1 a2 a3 a4 a5 a6 a7 a8 a9 a10 a11 a12))) (some (.ins "Disks" (F_Disks c0 c1 c2 c3 c4 c5 c6 c7 c8 c9 c10 c11 c12))) i b σ st = .nx σ (st.set i (.ins "Disks" (F_Disks a0 a1 a2 a3 a4 a5 a6 a7 b a9 a10 a11 a12))) := faC_ins isF _ _ _ _ _ _ _ _ ⟨if_Disks_8, by show (13 : Nat) < 1000; decide⟩ rfl
theorem lk_Disks_9 (a0 a1 a2 a3 a4 a5 a6 a7 a8 a9 a10 a11 a12 : A) : List.lookup ("_syncs" : Str) (F_Disks a0 a1 a2 a3 a4 a5 a6 a7 a8 a9 a10 a11 a12) = some a9 := rfl
theorem pm_Disks_9 (a0 a1 a2 a3 a4 a5 a6 a7 a8 a9 a10 a11 a12 b : A) : putM "_syncs" b (F_Disks a0 a1 a2 a3 a4 a5 a6 a7 a8 a9 a10 a11 a12) = F_Disks a0 a1 a2 a3 a4 a5 a6 a7 a8 b a10 a11 a12 := rfl
theorem if_Disks_9 : isF "Disks" "_syncs" = true := by decide +kernel
theorem fr_Disks_9 (a0 a1 a2 a3 a4 a5 a6 a7 a8 a9 a10 a11 a12 : A) (st : Store) : fldI isF "_syncs" (some ("Disks", F_Disks a0 a1 a2 a3 a4 a5 a6 a7 a8 a9 a10 a11 a12)) st = .ok a9 st := by rw [fldI_some isF _ _ _ _ if_Disks_9, lk_Disks_9]; rfl
theorem fw_Disks_9 (a0 a1 a2 a3 a4 a5 a6 a7 a8 a9 a10 a11 a12 b : A) (i : Nat) (σ : Slots) (st : Store) : fsC isF "_syncs" (some (.ins "Disks" (F_Disks a0 a1 a2 a3 a4 a5 a6 a7 a8 a9 a10 a11 a12))) i b σ st = .nx σ (st.set i (.ins "Disks" (F_Disks a0 a1 a2 a3 a4 a5 a6 a7 a8 b a10 a11 a12))) := fsC_ins isF _ _ _ _ _ _ _ ⟨if_Disks_9, by show (13 : Nat) < 1000; decide⟩
theorem fa_Disks_9 (a0 a1 a2 a3 a4 a5 a6 a7 a8 a9 a10 a11 a12 b c0 c1 c2 c3 c4 c5 c6 c7 c8 c9 c10 c11 c12 : A) (i : Nat) (σ : Slots) (st : Store) : faC isF "_syncs" (some (.ins "Disks" (F_Disks a0 a1 a2 a3 a4 a5 a6 a7 a8 a9 a10 a11 a12))) (some (.ins "Disks" (F_Disks c0 c1 c2 c3 c4 c5 c6 c7 c8 c9 c10 c11 c12))) i b σ st = .nx σ (st.set i (.ins "Disks" (F_Disks a0 a1 a2 a3 a4 a5 a6 a7 a8 b a10 a11 a12))) := faC_ins isF _ _ _ _ _ _ _ _ ⟨if_Disks_9, by show (13 : Nat) < 1000; decide⟩ rfl
theorem lk_Disks_10 (a0 a1 a2 a3 a4 a5 a6 a7 a8 a9 a10 a11 a12 : A) : List.lookup ("in_use" : Str) (F_Disks a0 a1 a2 a3 a4 a5 a6 a7 a8 a9 a10 a11 a12) = some a10 := rfl
theorem pm_Disks_10 (a0 a1 a2 a3 a4 a5 a6 a7 a8 a9 a10 a11 a12 b : A) : putM "in_use" b (F_Disks a0 a1 a2 a3 a4 a5 a6 a7 a8 a9 a10 a11 a12) = F_Disks a0 a1 a2 a3 a4 a5 a6 a7 a8 a9 b a11 a12 := rfl
theorem if_Disks_10 : isF "Disks" "in_use" = true := by decide +kernel
theorem fr_Disks_10 (a0 a1 a2 a3 a4 a5 a6 a7 a8 a9 a10 a11 a12 : A) (st : Store) : fldI isF "in_use" (some ("Disks", F_Disks a0 a1 a2 a3 a4 a5 a6 a7 a8 a9 a10 a11 a12)) st = .ok a10 st := by rw [fldI_some isF _ _ _ _ if_Disks_10, lk_Disks_10]; rfl
theorem fw_Disks_10 (a0 a1 a2 a3 a4 a5 a6 a7 a8 a9 a10 a11 a12 b : A) (i : Nat) (σ : Slots) (st : Store) : fsC isF "in_use" (some (.ins "Disks" (F_Disks a0 a1 a2 a3 a4 a5 a6 a7 a8 a9 a10 a11 a12))) i b σ st = .nx σ (st.set i (.ins "Disks" (F_Disks a0 a1 a2 a3 a4 a5 a6 a7 a8 a9 b a11 a12))) := fsC_ins isF _ _ _ _ _ _ _ ⟨if_Disks_10, by show (13 : Nat) < 1000; decide⟩
theorem fa_Disks_10 (a0 a1 a2 a3 a4 a5 a6 a7 a8 a9 a10 a11 a12 b c0 c1 c2 c3 c4 c5 c6 c7 c8 c9 c10 c11 c12 : A) (i : Nat) (σ : Slots) (st : Store) : faC isF "in_use" (some (.ins "Disks" (F_Disks a0 a1 a2 a3 a4 a5 a6 a7 a8 a9 a10 a11 a12))) (some (.ins "Disks" (F_Disks c0 c1 c2 c3 c4 c5 c6 c7 c8 c9 c10 c11 c12))) i b σ st = .nx σ (st.set i (.ins "Disks" (F_Disks a0 a1 a2 a3 a4 a5 a6 a7 a8 a9 b a11 a12))) := faC_ins isF _ _ _ _ _ _ _ _ ⟨if_Disks_10, by show (13 : Nat) < 1000; decide⟩ rfl
theorem lk_Disks_11 (a0 a1 a2 a3 a4 a5 a6 a7 a8 a9 a10 a11 a12 : A) : List.lookup ("formatted" : Str) (F_Disks a0 a1 a2 a3 a4 a5 a6 a7 a8 a9 a10 a11 a12) = some a11 := rfl
theorem pm_Disks_11 (a0 a1 a2 a3 a4 a5 a6 a7 a8 a9 a10 a11 a12 b : A) : putM "formatted" b (F_Disks a0 a1 a2 a3 a4 a5 a6 a7 a8 a9 a10 a11 a12) = F_Disks a0 a1 a2 a3 a4 a5 a6 a7 a8 a9 a10 b a12 := rfl
theorem if_Disks_11 : isF "Disks" "formatted" = true := by decide +kernel
theorem fr_Disks_11 (a0 a1 a2 a3 a4 a5 a6 a7 a8 a9 a10 a11 a12 : A) (st : Store) : fldI isF "formatted" (some ("Disks", F_Disks a0 a1 a2 a3 a4 a5 a6 a7 a8 a9 a10 a11 a12)) st = .ok a11 st := by rw [fldI_some isF _ _ _ _ if_Disks_11, lk_Disks_11]; rfl
theorem fw_Disks_11 (a0 a1 a2 a3 a4 a5 a6 a7 a8 a9 a10 a11 a12 b : A) (i : Nat) (σ : Slots) (st : Store) : fsC isF "formatted" (some (.ins "Disks" (F_Disks a0 a1 a2 a3 a4 a5 a6 a7 a8 a9 a10 a11 a12))) i b σ st = .nx σ (st.set i (.ins "Disks" (F_Disks a0 a1 a2 a3 a4 a5 a6 a7 a8 a9 a10 b a12))) := fsC_ins isF _ _ _ _ _ _ _ ⟨if_Disks_11, by show (13 : Nat) < 1000; decide⟩
theorem fa_Disks_11 (a0 a1 a2 a3 a4 a5 a6 a7 a8 a9 a10 a11 a12 b c0 c1 c2 c3 c4 c5 c6 c7 c8 c9 c10 c11 c12 : A) (i : Nat) (σ : Slots) (st : Store) : faC isF "formatted" (some (.ins "Disks" (F_Disks a0 a1 a2 a3 a4 a5 a6 a7 a8 a9 a10 a11 a12))) (some (.ins "Disks" (F_Disks c0 c1 c2 c3 c4 c5 c6 c7 c8 c9 c10 c11 c12))) i b σ st = .nx σ (st.set i (.ins "Disks" (F_Disks a0 a1 a2 a3 a4 a5 a6 a7 a8 a9 a10 b a12))) := faC_ins isF _ _ _ _ _ _ _ _ ⟨if_Disks_11, by show (13 : Nat) < 1000; decide⟩ rfl
theorem lk_Disks_12 (a0 a1 a2 a3 a4 a5 a6 a7 a8 a9 a10 a11 a12 : A) : List.lookup ("scrub_place" : Str) (F_Disks a0 a1 a2 a3 a4 a5 a6 a7 a8 a9 a10 a11 a12) = some a12 := rfl
theorem pm_Disks_12 (a0 a1 a2 a3 a4 a5 a6 a7 a8 a9 a10 a11 a12 b : A) : putM "scrub_place" b (F_Disks a0 a1 a2 a3 a4 a5 a6 a7 a8 a9 a10 a11 a12) = F_Disks a0 a1 a2 a3 a4 a5 a6 a7 a8 a9 a10 a11 b := rfl
theorem if_Disks_12 : isF "Disks" "scrub_place" = true := by decide +kernel
theorem fr_Disks_12 (a0 a1 a2 a3 a4 a5 a6 a7 a8 a9 a10 a11 a12 : A) (st : Store) : fldI isF "scrub_place" (some ("Disks", F_Disks a0 a1 a2 a3 a4 a5 a6 a7 a8 a9 a10 a11 a12)) st = .ok a12 st := by rw [fldI_some isF _ _ _ _ if_Disks_12, lk_Disks_12]; rfl
theorem fw_Disks_12 (a0 a1 a2 a3 a4 a5 a6 a7 a8 a9 a10 a11 a12 b : A) (i : Nat) (σ : Slots) (st : Store) : fsC isF "scrub_place" (some (.ins "Disks" (F_Disks a0 a1 a2 a3 a4 a5 a6 a7 a8 a9 a10 a11 a12))) i b σ st = .nx σ (st.set i (.ins "Disks" (F_Disks a0 a1 a2 a3 a4 a5 a6 a7 a8 a9 a10 a11 b))) := fsC_ins isF _ _ _ _ _ _ _ ⟨if_Disks_12, by show (13 : Nat) < 1000; decide⟩
theorem fa_Disks_12 (a0 a1 a2 a3 a4 a5 a6 a7 a8 a9 a10 a11 a12 b c0 c1 c2 c3 c4 c5 c6 c7 c8 c9 c10 c11 c12 : A) (i : Nat) (σ : Slots) (st : Store) : faC isF "scrub_place" (some (.ins "Disks" (F_Disks a0 a1 a2 a3 a4 a5 a6 a7 a8 a9 a10 a11 a12))) (some (.ins "Disks" (F_Disks c0 c1 c2 c3 c4 c5 c6 c7 c8 c9 c10 c11 c12))) i b σ st = .nx σ (st.set i (.ins "Disks" (F_Disks a0 a1 a2 a3 a4 a5 a6 a7 a8 a9 a10 a11 b))) := faC_ins isF _ _ _ _ _ _ _ _ ⟨if_Disks_12, by show (13 : Nat) < 1000; decide⟩ rfl
theorem lm_Disks_init (a0 a1 a2 a3 a4 a5 a6 a7 a8 a9 a10 a11 a12 : A) : List.lookup ("__init__" : Str) (F_Disks a0 a1 a2 a3 a4 a5 a6 a7 a8 a9 a10 a11 a12) = none := rfl
theorem mi_Disks_init (a0 a1 a2 a3 a4 a5 a6 a7 a8 a9 a10 a11 a12 a : A) (f : MF) (fs : MA) (σ : Slots) (st : Store) : methI "Disks" "__init__" f (some ("Disks", F_Disks a0 a1 a2 a3 a4 a5 a6 a7 a8 a9 a10 a11 a12)) a fs σ st = callA f a (fs σ st) := methI_some _ _ _ _ _ _ _ _ rfl
theorem lm_Disks_sizes (a0 a1 a2 a3 a4 a5 a6 a7 a8 a9 a10 a11 a12 : A) : List.lookup ("sizes" : Str) (F_Disks a0 a1 a2 a3 a4 a5 a6 a7 a8 a9 a10 a11 a12) = none := rfl
theorem mi_Disks_sizes (a0 a1 a2 a3 a4 a5 a6 a7 a8 a9 a10 a11 a12 a : A) (f : MF) (fs : MA) (σ : Slots) (st : Store) : methI "Disks" "sizes" f (some ("Disks", F_Disks a0 a1 a2 a3 a4 a5 a6 a7 a8 a9 a10 a11 a12)) a fs σ st = callA f a (fs σ st) := methI_some _ _ _ _ _ _ _ _ rfl
theorem lm_Disks_counts (a0 a1 a2 a3 a4 a5 a6 a7 a8 a9 a10 a11 a12 : A) : List.lookup ("counts" : Str) (F_Disks a0 a1 a2 a3 a4 a5 a6 a7 a8 a9 a10 a11 a12) = none := rfl
theorem mi_Disks_counts (a0 a1 a2 a3 a4 a5 a6 a7 a8 a9 a10 a11 a12 a : A) (f : MF) (fs : MA) (σ : Slots) (st : Store) : methI "Disks" "counts" f (some ("Disks", F_Disks a0 a1 a2 a3 a4 a5 a6 a7 a8 a9 a10 a11 a12)) a fs σ st = callA f a (fs σ st) := methI_some _ _ _ _ _ _ _ _ rfl
theorem lm_Disks_is_on (a0 a1 a2 a3 a4 a5 a6 a7 a8 a9 a10 a11 a12 : A) : List.lookup ("is_on" : Str) (F_Disks a0 a1 a2 a3 a4 a5 a6 a7 a8 a9 a10 a11 a12) = none := rfl
theorem mi_Disks_is_on (a0 a1 a2 a3 a4 a5 a6 a7 a8 a9 a10 a11 a12 a : A) (f : MF) (fs : MA) (σ : Slots) (st : Store) : methI "Disks" "is_on" f (some ("Disks", F_Disks a0 a1 a2 a3 a4 a5 a6 a7 a8 a9 a10 a11 a12)) a fs σ st = callA f a (fs σ st) := methI_some _ _ _ _ _ _ _ _ rfl
theorem lm_Disks_losses (a0 a1 a2 a3 a4 a5 a6 a7 a8 a9 a10 a11 a12 : A) : List.lookup ("losses" : Str) (F_Disks a0 a1 a2 a3 a4 a5 a6 a7 a8 a9 a10 a11 a12) = none := rfl
theorem mi_Disks_losses (a0 a1 a2 a3 a4 a5 a6 a7 a8 a9 a10 a11 a12 a : A) (f : MF) (fs : MA) (σ : Slots) (st : Store) : methI "Disks" "losses" f (some ("Disks", F_Disks a0 a1 a2 a3 a4 a5 a6 a7 a8 a9 a10 a11 a12)) a fs σ st = callA f a (fs σ st) := methI_some _ _ _ _ _ _ _ _ rfl
theorem lm_Disks_is_there (a0 a1 a2 a3 a4 a5 a6 a7 a8 a9 a10 a11 a12 : A) : List.lookup ("is_there" : Str) (F_Disks a0 a1 a2 a3 a4 a5 a6 a7 a8 a9 a10 a11 a12) = none := rfl
theorem mi_Disks_is_there (a0 a1 a2 a3 a4 a5 a6 a7 a8 a9 a10 a11 a12 a : A) (f : MF) (fs : MA) (σ : Slots) (st : Store) : methI "Disks" "is_there" f (some ("Disks", F_Disks a0 a1 a2 a3 a4 a5 a6 a7 a8 a9 a10 a11 a12)) a fs σ st = callA f a (fs σ st) := methI_some _ _ _ _ _ _ _ _ rfl
theorem lm_Disks_cell (a0 a1 a2 a3 a4 a5 a6 a7 a8 a9 a10 a11 a12 : A) : List.lookup ("cell" : Str) (F_Disks a0 a1 a2 a3 a4 a5 a6 a7 a8 a9 a10 a11 a12) = none := rfl
theorem mi_Disks_cell (a0 a1 a2 a3 a4 a5 a6 a7 a8 a9 a10 a11 a12 a : A) (f : MF) (fs : MA) (σ : Slots) (st : Store) : methI "Disks" "cell" f (some ("Disks", F_Disks a0 a1 a2 a3 a4 a5 a6 a7 a8 a9 a10 a11 a12)) a fs σ st = callA f a (fs σ st) := methI_some _ _ _ _ _ _ _ _ rfl
theorem lm_Disks_pending (a0 a1 a2 a3 a4 a5 a6 a7 a8 a9 a10 a11 a12 : A) : List.lookup ("pending" : Str) (F_Disks a0 a1 a2 a3 a4 a5 a6 a7 a8 a9 a10 a11 a12) = none := rfl
theorem mi_Disks_pending (a0 a1 a2 a3 a4 a5 a6 a7 a8 a9 a10 a11 a12 a : A) (f : MF) (fs : MA) (σ : Slots) (st : Store) : methI "Disks" "pending" f (some ("Disks", F_Disks a0 a1 a2 a3 a4 a5 a6 a7 a8 a9 a10 a11 a12)) a fs σ st = callA f a (fs σ st) := methI_some _ _ _ _ _ _ _ _ rfl
theorem lm_Disks_ask (a0 a1 a2 a3 a4 a5 a6 a7 a8 a9 a10 a11 a12 : A) : List.lookup ("ask" : Str) (F_Disks a0 a1 a2 a3 a4 a5 a6 a7 a8 a9 a10 a11 a12) = none := rfl
theorem mi_Disks_ask (a0 a1 a2 a3 a4 a5 a6 a7 a8 a9 a10 a11 a12 a : A) (f : MF) (fs : MA) (σ : Slots) (st : Store) : methI "Disks" "ask" f (some ("Disks", F_Disks a0 a1 a2 a3 a4 a5 a6 a7 a8 a9 a10 a11 a12)) a fs σ st = callA f a (fs σ st) := methI_some _ _ _ _ _ _ _ _ rfl
theorem lm_Disks__fail (a0 a1 a2 a3 a4 a5 a6 a7 a8 a9 a10 a11 a12 : A) : List.lookup ("_fail" : Str) (F_Disks a0 a1 a2 a3 a4 a5 a6 a7 a8 a9 a10 a11 a12) = none := rfl
theorem mi_Disks__fail (a0 a1 a2 a3 a4 a5 a6 a7 a8 a9 a10 a11 a12 a : A) (f : MF) (fs : MA) (σ : Slots) (st : Store) : methI "Disks" "_fail" f (some ("Disks", F_Disks a0 a1 a2 a3 a4 a5 a6 a7 a8 a9 a10 a11 a12)) a fs σ st = callA f a (fs σ st) := methI_some _ _ _ _ _ _ _ _ rfl
theorem lm_Disks__operation (a0 a1 a2 a3 a4 a5 a6 a7 a8 a9 a10 a11 a12 : A) : List.lookup ("_operation" : Str) (F_Disks a0 a1 a2 a3 a4 a5 a6 a7 a8 a9 a10 a11 a12) = none := rfl
theorem mi_Disks__operation (a0 a1 a2 a3 a4 a5 a6 a7 a8 a9 a10 a11 a12 a : A) (f : MF) (fs : MA) (σ : Slots) (st : Store) : methI "Disks" "_operation" f (some ("Disks", F_Disks a0 a1 a2 a3 a4 a5 a6 a7 a8 a9 a10 a11 a12)) a fs σ st = callA f a (fs σ st) := methI_some _ _ _ _ _ _ _ _ rfl
theorem lm_Disks__lay (a0 a1 a2 a3 a4 a5 a6 a7 a8 a9 a10 a11 a12 : A) : List.lookup ("_lay" : Str) (F_Disks a0 a1 a2 a3 a4 a5 a6 a7 a8 a9 a10 a11 a12) = none := rfl
theorem mi_Disks__lay (a0 a1 a2 a3 a4 a5 a6 a7 a8 a9 a10 a11 a12 a : A) (f : MF) (fs : MA) (σ : Slots) (st : Store) : methI "Disks" "_lay" f (some ("Disks", F_Disks a0 a1 a2 a3 a4 a5 a6 a7 a8 a9 a10 a11 a12)) a fs σ st = callA f a (fs σ st) := methI_some _ _ _ _ _ _ _ _ rfl
theorem lm_Disks_write (a0 a1 a2 a3 a4 a5 a6 a7 a8 a9 a10 a11 a12 : A) : List.lookup ("write" : Str) (F_Disks a0 a1 a2 a3 a4 a5 a6 a7 a8 a9 a10 a11 a12) = none := rfl
theorem mi_Disks_write (a0 a1 a2 a3 a4 a5 a6 a7 a8 a9 a10 a11 a12 a : A) (f : MF) (fs : MA) (σ : Slots) (st : Store) : methI "Disks" "write" f (some ("Disks", F_Disks a0 a1 a2 a3 a4 a5 a6 a7 a8 a9 a10 a11 a12)) a fs σ st = callA f a (fs σ st) := methI_some _ _ _ _ _ _ _ _ rfl
theorem lm_Disks_sync (a0 a1 a2 a3 a4 a5 a6 a7 a8 a9 a10 a11 a12 : A) : List.lookup ("sync" : Str) (F_Disks a0 a1 a2 a3 a4 a5 a6 a7 a8 a9 a10 a11 a12) = none := rfl
theorem mi_Disks_sync (a0 a1 a2 a3 a4 a5 a6 a7 a8 a9 a10 a11 a12 a : A) (f : MF) (fs : MA) (σ : Slots) (st : Store) : methI "Disks" "sync" f (some ("Disks", F_Disks a0 a1 a2 a3 a4 a5 a6 a7 a8 a9 a10 a11 a12)) a fs σ st = callA f a (fs σ st) := methI_some _ _ _ _ _ _ _ _ rfl
theorem lm_Disks_rot (a0 a1 a2 a3 a4 a5 a6 a7 a8 a9 a10 a11 a12 : A) : List.lookup ("rot" : Str) (F_Disks a0 a1 a2 a3 a4 a5 a6 a7 a8 a9 a10 a11 a12) = none := rfl
theorem mi_Disks_rot (a0 a1 a2 a3 a4 a5 a6 a7 a8 a9 a10 a11 a12 a : A) (f : MF) (fs : MA) (σ : Slots) (st : Store) : methI "Disks" "rot" f (some ("Disks", F_Disks a0 a1 a2 a3 a4 a5 a6 a7 a8 a9 a10 a11 a12)) a fs σ st = callA f a (fs σ st) := methI_some _ _ _ _ _ _ _ _ rfl
theorem lm_Disks_bad (a0 a1 a2 a3 a4 a5 a6 a7 a8 a9 a10 a11 a12 : A) : List.lookup ("bad" : Str) (F_Disks a0 a1 a2 a3 a4 a5 a6 a7 a8 a9 a10 a11 a12) = none := rfl
theorem mi_Disks_bad (a0 a1 a2 a3 a4 a5 a6 a7 a8 a9 a10 a11 a12 a : A) (f : MF) (fs : MA) (σ : Slots) (st : Store) : methI "Disks" "bad" f (some ("Disks", F_Disks a0 a1 a2 a3 a4 a5 a6 a7 a8 a9 a10 a11 a12)) a fs σ st = callA f a (fs σ st) := methI_some _ _ _ _ _ _ _ _ rfl
theorem lm_Disks_away (a0 a1 a2 a3 a4 a5 a6 a7 a8 a9 a10 a11 a12 : A) : List.lookup ("away" : Str) (F_Disks a0 a1 a2 a3 a4 a5 a6 a7 a8 a9 a10 a11 a12) = none := rfl
theorem mi_Disks_away (a0 a1 a2 a3 a4 a5 a6 a7 a8 a9 a10 a11 a12 a : A) (f : MF) (fs : MA) (σ : Slots) (st : Store) : methI "Disks" "away" f (some ("Disks", F_Disks a0 a1 a2 a3 a4 a5 a6 a7 a8 a9 a10 a11 a12)) a fs σ st = callA f a (fs σ st) := methI_some _ _ _ _ _ _ _ _ rfl
theorem lm_Disks_blank (a0 a1 a2 a3 a4 a5 a6 a7 a8 a9 a10 a11 a12 : A) : List.lookup ("blank" : Str) (F_Disks a0 a1 a2 a3 a4 a5 a6 a7 a8 a9 a10 a11 a12) = none := rfl
theorem mi_Disks_blank (a0 a1 a2 a3 a4 a5 a6 a7 a8 a9 a10 a11 a12 a : A) (f : MF) (fs : MA) (σ : Slots) (st : Store) : methI "Disks" "blank" f (some ("Disks", F_Disks a0 a1 a2 a3 a4 a5 a6 a7 a8 a9 a10 a11 a12)) a fs σ st = callA f a (fs σ st) := methI_some _ _ _ _ _ _ _ _ rfl
theorem lm_Disks_fail_after (a0 a1 a2 a3 a4 a5 a6 a7 a8 a9 a10 a11 a12 : A) : List.lookup ("fail_after" : Str) (F_Disks a0 a1 a2 a3 a4 a5 a6 a7 a8 a9 a10 a11 a12) = none := rfl
theorem mi_Disks_fail_after (a0 a1 a2 a3 a4 a5 a6 a7 a8 a9 a10 a11 a12 a : A) (f : MF) (fs : MA) (σ : Slots) (st : Store) : methI "Disks" "fail_after" f (some ("Disks", F_Disks a0 a1 a2 a3 a4 a5 a6 a7 a8 a9 a10 a11 a12)) a fs σ st = callA f a (fs σ st) := methI_some _ _ _ _ _ _ _ _ rfl
theorem lm_Disks_power (a0 a1 a2 a3 a4 a5 a6 a7 a8 a9 a10 a11 a12 : A) : List.lookup ("power" : Str) (F_Disks a0 a1 a2 a3 a4 a5 a6 a7 a8 a9 a10 a11 a12) = none := rfl
theorem mi_Disks_power (a0 a1 a2 a3 a4 a5 a6 a7 a8 a9 a10 a11 a12 a : A) (f : MF) (fs : MA) (σ : Slots) (st : Store) : methI "Disks" "power" f (some ("Disks", F_Disks a0 a1 a2 a3 a4 a5 a6 a7 a8 a9 a10 a11 a12)) a fs σ st = callA f a (fs σ st) := methI_some _ _ _ _ _ _ _ _ rfl
theorem fn_Disks_0 (b : A) (i : Nat) (σ : Slots) (st : Store) : fsC isF "_sizes" (some (.ins "Disks" [])) i b σ st = .nx σ (st.set i (.ins "Disks" (([("_sizes", b)] : List (Str × A))))) := fsC_ins isF _ _ _ _ _ _ _ ⟨if_Disks_0, by show (0 : Nat) < 1000; decide⟩
theorem fn_Disks_1 (a0 b : A) (i : Nat) (σ : Slots) (st : Store) : fsC isF "_media" (some (.ins "Disks" [("_sizes", a0)])) i b σ st = .nx σ (st.set i (.ins "Disks" (([("_sizes", a0), ("_media", b)] : List (Str × A))))) := fsC_ins isF _ _ _ _ _ _ _ ⟨if_Disks_1, by show (1 : Nat) < 1000; decide⟩
theorem fn_Disks_2 (a0 a1 b : A) (i : Nat) (σ : Slots) (st : Store) : fsC isF "_waiting" (some (.ins "Disks" [("_sizes", a0), ("_media", a1)])) i b σ st = .nx σ (st.set i (.ins "Disks" (([("_sizes", a0), ("_media", a1), ("_waiting", b)] : List (Str × A))))) := fsC_ins isF _ _ _ _ _ _ _ ⟨if_Disks_2, by show (2 : Nat) < 1000; decide⟩
theorem fn_Disks_3 (a0 a1 a2 b : A) (i : Nat) (σ : Slots) (st : Store) : fsC isF "_there" (some (.ins "Disks" [("_sizes", a0), ("_media", a1), ("_waiting", a2)])) i b σ st = .nx σ (st.set i (.ins "Disks" (([("_sizes", a0), ("_media", a1), ("_waiting", a2), ("_there", b)] : List (Str × A))))) := fsC_ins isF _ _ _ _ _ _ _ ⟨if_Disks_3, by show (3 : Nat) < 1000; decide⟩
theorem fn_Disks_4 (a0 a1 a2 a3 b : A) (i : Nat) (σ : Slots) (st : Store) : fsC isF "_powered" (some (.ins "Disks" [("_sizes", a0), ("_media", a1), ("_waiting", a2), ("_there", a3)])) i b σ st = .nx σ (st.set i (.ins "Disks" (([("_sizes", a0), ("_media", a1), ("_waiting", a2), ("_there", a3), ("_powered", b)] : List (Str × A))))) := fsC_ins isF _ _ _ _ _ _ _ ⟨if_Disks_4, by show (4 : Nat) < 1000; decide⟩
theorem fn_Disks_5 (a0 a1 a2 a3 a4 b : A) (i : Nat) (σ : Slots) (st : Store) : fsC isF "_fuse" (some (.ins "Disks" [("_sizes", a0), ("_media", a1), ("_waiting", a2), ("_there", a3), ("_powered", a4)])) i b σ st = .nx σ (st.set i (.ins "Disks" (([("_sizes", a0), ("_media", a1), ("_waiting", a2), ("_there", a3), ("_powered", a4), ("_fuse", b)] : List (Str × A))))) := fsC_ins isF _ _ _ _ _ _ _ ⟨if_Disks_5, by show (5 : Nat) < 1000; decide⟩
theorem fn_Disks_6 (a0 a1 a2 a3 a4 a5 b : A) (i : Nat) (σ : Slots) (st : Store) : fsC isF "_losses" (some (.ins "Disks" [("_sizes", a0), ("_media", a1), ("_waiting", a2), ("_there", a3), ("_powered", a4), ("_fuse", a5)])) i b σ st = .nx σ (st.set i (.ins "Disks" (([("_sizes", a0), ("_media", a1), ("_waiting", a2), ("_there", a3), ("_powered", a4), ("_fuse", a5), ("_losses", b)] : List (Str × A))))) := fsC_ins isF _ _ _ _ _ _ _ ⟨if_Disks_6, by show (6 : Nat) < 1000; decide⟩
theorem fn_Disks_7 (a0 a1 a2 a3 a4 a5 a6 b : A) (i : Nat) (σ : Slots) (st : Store) : fsC isF "_reads" (some (.ins "Disks" [("_sizes", a0), ("_media", a1), ("_waiting", a2), ("_there", a3), ("_powered", a4), ("_fuse", a5), ("_losses", a6)])) i b σ st = .nx σ (st.set i (.ins "Disks" (([("_sizes", a0), ("_media", a1), ("_waiting", a2), ("_there", a3), ("_powered", a4), ("_fuse", a5), ("_losses", a6), ("_reads", b)] : List (Str × A))))) := fsC_ins isF _ _ _ _ _ _ _ ⟨if_Disks_7, by show (7 : Nat) < 1000; decide⟩
theorem fn_Disks_8 (a0 a1 a2 a3 a4 a5 a6 a7 b : A) (i : Nat) (σ : Slots) (st : Store) : fsC isF "_writes" (some (.ins "Disks" [("_sizes", a0), ("_media", a1), ("_waiting", a2), ("_there", a3), ("_powered", a4), ("_fuse", a5), ("_losses", a6), ("_reads", a7)])) i b σ st = .nx σ (st.set i (.ins "Disks" (([("_sizes", a0), ("_media", a1), ("_waiting", a2), ("_there", a3), ("_powered", a4), ("_fuse", a5), ("_losses", a6), ("_reads", a7), ("_writes", b)] : List (Str × A))))) := fsC_ins isF _ _ _ _ _ _ _ ⟨if_Disks_8, by show (8 : Nat) < 1000; decide⟩
theorem fn_Disks_9 (a0 a1 a2 a3 a4 a5 a6 a7 a8 b : A) (i : Nat) (σ : Slots) (st : Store) : fsC isF "_syncs" (some (.ins "Disks" [("_sizes", a0), ("_media", a1), ("_waiting", a2), ("_there", a3), ("_powered", a4), ("_fuse", a5), ("_losses", a6), ("_reads", a7), ("_writes", a8)])) i b σ st = .nx σ (st.set i (.ins "Disks" (([("_sizes", a0), ("_media", a1), ("_waiting", a2), ("_there", a3), ("_powered", a4), ("_fuse", a5), ("_losses", a6), ("_reads", a7), ("_writes", a8), ("_syncs", b)] : List (Str × A))))) := fsC_ins isF _ _ _ _ _ _ _ ⟨if_Disks_9, by show (9 : Nat) < 1000; decide⟩
theorem fn_Disks_10 (a0 a1 a2 a3 a4 a5 a6 a7 a8 a9 b : A) (i : Nat) (σ : Slots) (st : Store) : fsC isF "in_use" (some (.ins "Disks" [("_sizes", a0), ("_media", a1), ("_waiting", a2), ("_there", a3), ("_powered", a4), ("_fuse", a5), ("_losses", a6), ("_reads", a7), ("_writes", a8), ("_syncs", a9)])) i b σ st = .nx σ (st.set i (.ins "Disks" (([("_sizes", a0), ("_media", a1), ("_waiting", a2), ("_there", a3), ("_powered", a4), ("_fuse", a5), ("_losses", a6), ("_reads", a7), ("_writes", a8), ("_syncs", a9), ("in_use", b)] : List (Str × A))))) := fsC_ins isF _ _ _ _ _ _ _ ⟨if_Disks_10, by show (10 : Nat) < 1000; decide⟩
theorem fn_Disks_11 (a0 a1 a2 a3 a4 a5 a6 a7 a8 a9 a10 b : A) (i : Nat) (σ : Slots) (st : Store) : fsC isF "formatted" (some (.ins "Disks" [("_sizes", a0), ("_media", a1), ("_waiting", a2), ("_there", a3), ("_powered", a4), ("_fuse", a5), ("_losses", a6), ("_reads", a7), ("_writes", a8), ("_syncs", a9), ("in_use", a10)])) i b σ st = .nx σ (st.set i (.ins "Disks" (([("_sizes", a0), ("_media", a1), ("_waiting", a2), ("_there", a3), ("_powered", a4), ("_fuse", a5), ("_losses", a6), ("_reads", a7), ("_writes", a8), ("_syncs", a9), ("in_use", a10), ("formatted", b)] : List (Str × A))))) := fsC_ins isF _ _ _ _ _ _ _ ⟨if_Disks_11, by show (11 : Nat) < 1000; decide⟩
theorem fn_Disks_12 (a0 a1 a2 a3 a4 a5 a6 a7 a8 a9 a10 a11 b : A) (i : Nat) (σ : Slots) (st : Store) : fsC isF "scrub_place" (some (.ins "Disks" [("_sizes", a0), ("_media", a1), ("_waiting", a2), ("_there", a3), ("_powered", a4), ("_fuse", a5), ("_losses", a6), ("_reads", a7), ("_writes", a8), ("_syncs", a9), ("in_use", a10), ("formatted", a11)])) i b σ st = .nx σ (st.set i (.ins "Disks" (F_Disks a0 a1 a2 a3 a4 a5 a6 a7 a8 a9 a10 a11 b))) := fsC_ins isF _ _ _ _ _ _ _ ⟨if_Disks_12, by show (12 : Nat) < 1000; decide⟩
end
end Lw
local macro_rules | `(tactic| walk_at "len") => `(tactic| (simp only [List.length_map, List.length_append, List.length_cons, List.length_nil, List.length_replicate, List.length_range, List.length_take, List.length_drop, List.length_reverse, List.length_set]))
local macro_rules | `(tactic| walk_at "dis") => `(tactic| first
  | assumption
  | (show (_ : Nat) ≠ _; exact Ne.symm (by assumption))
  | (show (_ : Nat) < List.length _; (simp only [List.length_set, List.length_append]); first | assumption | omega)
  | exact Am.cdivA _ (by decide)
  | (show Am.CDivA _ _; exact Am.cdivA _ ⟨by omega, by omega⟩)
  | exact Am.cmulR _ (by decide)
  | exact Am.cmulL _ (by decide)
  | exact Am.cmulR _ ⟨by omega, by omega⟩
  | exact Am.cmulL _ ⟨by omega, by omega⟩
  | (show (_ : Int) < _; first | decide | omega)
  | (show L2.CPow _ _; decide)
  | (show (_ : Nat) ≤ Am.SZ; unfold Am.SZ; (try walk_at "len"); omega)
  | (show (_ : Nat) < Am.SZ; unfold Am.SZ; (try walk_at "len"); omega)
  | (refine And.intro ?_ ?_ <;> first | omega | decide | ((walk_at "len"); omega))
  | (refine And.intro ?_ (And.intro ?_ ?_) <;> first | omega | decide | (show (_ : Nat) ≤ Am.SZ; unfold Am.SZ; (try walk_at "len"); omega))
  | exact rfl)
local macro_rules | `(tactic| walk_at "ev") => `(tactic| simp (config := { implicitDefEqProofs := false }) (disch := walk_at "dis") only [Am.gFld_ap, Am.viewI_c, Am.mFld_ap, Am.mFS_ap, Am.fsR_ok, Am.fs2_ok, Am.mMeth_ap, Am.methO_ok, Am.callA_ok, Am.madeR_ok, Am.mMake_ap, Am.makeR_ok, Am.mRaise_ap, Am.gIsi_ii, Am.gIsi_ib, Am.loc_assoc, Am.mFA_ap, Am.fa1_ok, Am.fa2_ok, Am.fa3_ok, Am.fa4_ok, Am.fa5_c, Am.mDNewK_ap, Am.mDNewT_ap, Am.mTry_ap, Am.tryO_ex, Am.tryB_t, Am.tryO_nx, Am.tryO_rt, Am.noExO_nx, Am.noExO_rt, Am.need_T, Am.ifc_T, Am.needO_T, Am.gEq_ni, Am.gEq_bf, Am.gEq_bt, Lw.fa_Disks_0, Lw.pm_Disks_0, Lw.fr_Disks_0, Lw.fw_Disks_0, Lw.fa_Disks_1, Lw.pm_Disks_1, Lw.fr_Disks_1, Lw.fw_Disks_1, Lw.fa_Disks_2, Lw.pm_Disks_2, Lw.fr_Disks_2, Lw.fw_Disks_2, Lw.fa_Disks_3, Lw.pm_Disks_3, Lw.fr_Disks_3, Lw.fw_Disks_3, Lw.fa_Disks_4, Lw.pm_Disks_4, Lw.fr_Disks_4, Lw.fw_Disks_4, Lw.fa_Disks_5, Lw.pm_Disks_5, Lw.fr_Disks_5, Lw.fw_Disks_5, Lw.fa_Disks_6, Lw.pm_Disks_6, Lw.fr_Disks_6, Lw.fw_Disks_6, Lw.fa_Disks_7, Lw.pm_Disks_7, Lw.fr_Disks_7, Lw.fw_Disks_7, Lw.fa_Disks_8, Lw.pm_Disks_8, Lw.fr_Disks_8, Lw.fw_Disks_8, Lw.fa_Disks_9, Lw.pm_Disks_9, Lw.fr_Disks_9, Lw.fw_Disks_9, Lw.fa_Disks_10, Lw.pm_Disks_10, Lw.fr_Disks_10, Lw.fw_Disks_10, Lw.fa_Disks_11, Lw.pm_Disks_11, Lw.fr_Disks_11, Lw.fw_Disks_11, Lw.fa_Disks_12, Lw.pm_Disks_12, Lw.fr_Disks_12, Lw.fw_Disks_12, Lw.mi_Disks_init, Lw.mi_Disks_sizes, Lw.mi_Disks_counts, Lw.mi_Disks_is_on, Lw.mi_Disks_losses, Lw.mi_Disks_is_there, Lw.mi_Disks_cell, Lw.mi_Disks_pending, Lw.mi_Disks_ask, Lw.mi_Disks__fail, Lw.mi_Disks__operation, Lw.mi_Disks__lay, Lw.mi_Disks_write, Lw.mi_Disks_sync, Lw.mi_Disks_rot, Lw.mi_Disks_bad, Lw.mi_Disks_away, Lw.mi_Disks_blank, Lw.mi_Disks_fail_after, Lw.mi_Disks_power, Lw.fn_Disks_0, Lw.fn_Disks_1, Lw.fn_Disks_2, Lw.fn_Disks_3, Lw.fn_Disks_4, Lw.fn_Disks_5, Lw.fn_Disks_6, Lw.fn_Disks_7, Lw.fn_Disks_8, Lw.fn_Disks_9, Lw.fn_Disks_10, Lw.fn_Disks_11, Lw.fn_Disks_12, Am.mF_0, Am.mF_1, Am.mF_2, Am.mF_3, Am.mF_4, Am.mF_5, Am.mF_6, Am.mF_7, Am.mF_8, Am.endR_nx, Am.endR_rt, Am.endR_ex0, Am.mSeq_ap, Am.seqO_nx, Am.binR_ok, Am.bin2_ok, Am.consR_ok, Am.cons2_ok, Am.tstR_ok, Am.setO_ok, Am.setO_ex, Am.retO_ok, Am.retO_ex, Am.doO_ok, Am.doO_ex, Am.slR_ok, Am.sl2_ok, Am.sl3_ok, Am.partR_ok, Am.methR_ok, Am.meth2_ok, Am.forO_ok, Am.augO_ok, Am.aug2_ok, Am.seqO_rt, Am.seqO_bk, Am.seqO_ct, Am.seqO_ex, Am.ifO_t, Am.ifO_f, Am.ifO_ex, Am.andR_t, Am.andR_f, Am.orR_t, Am.orR_f, Am.iteR_t, Am.iteR_f, Am.andV_t, Am.andV_f, Am.orV_t, Am.orV_f, Am.mSet_ap, Am.mRet_ap, Am.mRetN, Am.mIf_ap, Am.mDo_ap, Am.mAsg_ap, Am.asgO_ok, Am.asg2_some, Am.mTrunc_ap, Am.trO_nx, Am.trO_nx0, Am.trO_ct, Am.trO_ct0, Am.trO_rt, Am.trO_ex, Am.keepA_d, Am.keepA_n, Am.keepA_0, Am.keepA_k, Am.mPar, Am.mSkip, Am.mCnt, Am.mBrk, Am.mFor_ap, Am.mAug_ap, Am.mAugS, Am.mVar, Am.mC, Am.mBin_ap, Am.mUn, Am.mCall_ap, Am.mCallB_ap, Am.mCons_ap, Am.mNil, Am.mList_ap, Am.mTup_ap, Am.mTst_ap, Am.mTru_ap, Am.truR_n, Am.truR_b, Am.truR_i, Am.truR_l, Am.truR_s, Am.truR_t, Am.truR_c, Am.truC_l, Am.mNot_ap, Am.notR_ok, Am.mAnd_ap, Am.mOr_ap, Am.mIfE_ap, Am.mNotV_ap, Am.notV_b, Am.mAndV_ap, Am.mOrV_ap, Am.mChain_ap, Am.ch1_ok, Am.ch2_ok, Am.chR_t, Am.chR_f, Am.mSl_ap, Am.mNoPart, Am.mPart_ap, Am.mMethL_ap, Am.mFrz, Am.mYes,
  Am.kName, Am.kTup, Am.kCons, Am.kNil, Am.kSub_ap, Am.subR_ok, Am.sub2_ok, Am.bind_ok, Am.bind_ex, Am.lift_ok, Am.lift_ex, Am.iListM, Am.iTupM, Am.iRng1M, Am.iRng2M, Am.gI0, Am.gI, Am.gNeg, Am.gInt, Am.gMin, Am.gMax,
  Am.gAdd_i, Am.gAdd_l, Am.gAdd_t, Am.gAdd_cl, Am.gAdd_lc, Am.gAdd_s, Am.gMul_i, Am.gMul_l, Am.viewL_l, Am.viewL_c, Am.viewS_l, Am.viewS_s, Am.viewS_c, Am.viewS_t, Am.viewS_kt, Am.viewS_str, Am.viewT_t, Am.viewT_kt, Am.gLen_l, Am.gLen_s, Am.gLen_t, Am.gLen_kt, Am.gLen_c, Am.lenC_l, Am.lenC_fl, Am.lenC_k, Am.lenC_t, Am.ixC_l, Am.ixC_fl, Am.gListOf_l, Am.gListOf_s, Am.gListOf_t, Am.gListOf_kt, Am.gListOf_c, Am.gTupOf_l, Am.gTupOf_t, Am.gTupOf_c, Am.gIx_l, Am.gIx_s, Am.gIx_t, Am.gIx_kt, Am.gIx_c, Am.gSl_l, Am.gSl_t, Am.gSl_c, Am.gRev_l, Am.gRev_c, Am.atI_0, Am.atI_1, Am.atI_2, Am.atI_3, Am.atI_4, Am.atI_5, Am.gIs_n, Am.gIs_l, Am.gIs_t, Am.gIs_i, Am.gIs_s, Am.gIs_kt, Am.gEq_if, Am.gEq_it, Am.gIs_c, Am.gIs_b, Am.frz_d, Am.gAppend, Am.gExtend, Am.gPopAt, Am.gSet, Am.gIxM,
  Am.need_pos, Am.ifc_pos, Am.needO_true, Am.truthA, Am.truthD, Am.mkL_c, Am.mkL_e, Am.mkT_e, Am.allD, Am.allD_map, Am.allD_append, Option.bind_some, List.getElem?_set_self, List.getElem?_set_ne, List.set_set, List.length_map, List.length_range, Int.toNat_natCast, Am.loc_get, Am.loc_get0, Am.loc_set, Am.loc_set0, Am.loc_push, Am.loc_len, Am.exit2_d, Am.exit2_d0, Am.exitR_0, Am.turn, Am.nxt_nx, Am.nxt_ct,
  List.length_cons, List.length_nil, List.map_cons, List.map_nil, List.cons_append, List.nil_append, List.replicate_succ, List.replicate_zero, List.getElem?_cons_zero, List.getElem?_cons_succ, List.getElem?_nil, List.set_cons_zero, List.set_cons_succ, List.append_nil, List.isEmpty_nil, List.isEmpty_cons, Nat.reduceAdd, Nat.reduceSub, Nat.add_zero, Nat.zero_add, if_pos, if_true, if_false, Bool.false_eq_true, Bool.not_true, Bool.true_and, Bool.and_true, Bool.false_and, Bool.and_false, Bool.not_false, Option.map_some, Option.map_none, decide_true, decide_false, ite_true, ite_false])
local macro_rules | `(tactic| walk_at "ev*") => `(tactic| simp (config := { implicitDefEqProofs := false }) (disch := walk_at "dis") only [Am.gFld_ap, Am.viewI_c, Am.mFld_ap, Am.mFS_ap, Am.fsR_ok, Am.fs2_ok, Am.mMeth_ap, Am.methO_ok, Am.callA_ok, Am.madeR_ok, Am.mMake_ap, Am.makeR_ok, Am.mRaise_ap, Am.gIsi_ii, Am.gIsi_ib, Am.loc_assoc, Am.mFA_ap, Am.fa1_ok, Am.fa2_ok, Am.fa3_ok, Am.fa4_ok, Am.fa5_c, Am.mDNewK_ap, Am.mDNewT_ap, Am.mTry_ap, Am.tryO_ex, Am.tryB_t, Am.tryO_nx, Am.tryO_rt, Am.noExO_nx, Am.noExO_rt, Am.need_T, Am.ifc_T, Am.needO_T, Am.gEq_ni, Am.gEq_bf, Am.gEq_bt, Lw.fa_Disks_0, Lw.pm_Disks_0, Lw.fr_Disks_0, Lw.fw_Disks_0, Lw.fa_Disks_1, Lw.pm_Disks_1, Lw.fr_Disks_1, Lw.fw_Disks_1, Lw.fa_Disks_2, Lw.pm_Disks_2, Lw.fr_Disks_2, Lw.fw_Disks_2, Lw.fa_Disks_3, Lw.pm_Disks_3, Lw.fr_Disks_3, Lw.fw_Disks_3, Lw.fa_Disks_4, Lw.pm_Disks_4, Lw.fr_Disks_4, Lw.fw_Disks_4, Lw.fa_Disks_5, Lw.pm_Disks_5, Lw.fr_Disks_5, Lw.fw_Disks_5, Lw.fa_Disks_6, Lw.pm_Disks_6, Lw.fr_Disks_6, Lw.fw_Disks_6, Lw.fa_Disks_7, Lw.pm_Disks_7, Lw.fr_Disks_7, Lw.fw_Disks_7, Lw.fa_Disks_8, Lw.pm_Disks_8, Lw.fr_Disks_8, Lw.fw_Disks_8, Lw.fa_Disks_9, Lw.pm_Disks_9, Lw.fr_Disks_9, Lw.fw_Disks_9, Lw.fa_Disks_10, Lw.pm_Disks_10, Lw.fr_Disks_10, Lw.fw_Disks_10, Lw.fa_Disks_11, Lw.pm_Disks_11, Lw.fr_Disks_11, Lw.fw_Disks_11, Lw.fa_Disks_12, Lw.pm_Disks_12, Lw.fr_Disks_12, Lw.fw_Disks_12, Lw.mi_Disks_init, Lw.mi_Disks_sizes, Lw.mi_Disks_counts, Lw.mi_Disks_is_on, Lw.mi_Disks_losses, Lw.mi_Disks_is_there, Lw.mi_Disks_cell, Lw.mi_Disks_pending, Lw.mi_Disks_ask, Lw.mi_Disks__fail, Lw.mi_Disks__operation, Lw.mi_Disks__lay, Lw.mi_Disks_write, Lw.mi_Disks_sync, Lw.mi_Disks_rot, Lw.mi_Disks_bad, Lw.mi_Disks_away, Lw.mi_Disks_blank, Lw.mi_Disks_fail_after, Lw.mi_Disks_power, Lw.fn_Disks_0, Lw.fn_Disks_1, Lw.fn_Disks_2, Lw.fn_Disks_3, Lw.fn_Disks_4, Lw.fn_Disks_5, Lw.fn_Disks_6, Lw.fn_Disks_7, Lw.fn_Disks_8, Lw.fn_Disks_9, Lw.fn_Disks_10, Lw.fn_Disks_11, Lw.fn_Disks_12, Am.mF_0, Am.mF_1, Am.mF_2, Am.mF_3, Am.mF_4, Am.mF_5, Am.mF_6, Am.mF_7, Am.mF_8, Am.endR_nx, Am.endR_rt, Am.endR_ex0, Am.mSeq_ap, Am.seqO_nx, Am.binR_ok, Am.bin2_ok, Am.consR_ok, Am.cons2_ok, Am.tstR_ok, Am.setO_ok, Am.setO_ex, Am.retO_ok, Am.retO_ex, Am.doO_ok, Am.doO_ex, Am.slR_ok, Am.sl2_ok, Am.sl3_ok, Am.partR_ok, Am.methR_ok, Am.meth2_ok, Am.forO_ok, Am.augO_ok, Am.aug2_ok, Am.seqO_rt, Am.seqO_bk, Am.seqO_ct, Am.seqO_ex, Am.ifO_t, Am.ifO_f, Am.ifO_ex, Am.andR_t, Am.andR_f, Am.orR_t, Am.orR_f, Am.iteR_t, Am.iteR_f, Am.andV_t, Am.andV_f, Am.orV_t, Am.orV_f, Am.mSet_ap, Am.mRet_ap, Am.mRetN, Am.mIf_ap, Am.mDo_ap, Am.mAsg_ap, Am.asgO_ok, Am.asg2_some, Am.mTrunc_ap, Am.trO_nx, Am.trO_nx0, Am.trO_ct, Am.trO_ct0, Am.trO_rt, Am.trO_ex, Am.keepA_d, Am.keepA_n, Am.keepA_0, Am.keepA_k, Am.mPar, Am.mSkip, Am.mCnt, Am.mBrk, Am.mFor_ap, Am.mAug_ap, Am.mAugS, Am.mVar, Am.mC, Am.mBin_ap, Am.mUn, Am.mCall_ap, Am.mCallB_ap, Am.mCons_ap, Am.mNil, Am.mList_ap, Am.mTup_ap, Am.mTst_ap, Am.mTru_ap, Am.truR_n, Am.truR_b, Am.truR_i, Am.truR_l, Am.truR_s, Am.truR_t, Am.truR_c, Am.truC_l, Am.mNot_ap, Am.notR_ok, Am.mAnd_ap, Am.mOr_ap, Am.mIfE_ap, Am.mNotV_ap, Am.notV_b, Am.mAndV_ap, Am.mOrV_ap, Am.mChain_ap, Am.ch1_ok, Am.ch2_ok, Am.chR_t, Am.chR_f, Am.mSl_ap, Am.mNoPart, Am.mPart_ap, Am.mMethL_ap, Am.mFrz, Am.mYes,
  Am.kName, Am.kTup, Am.kCons, Am.kNil, Am.kSub_ap, Am.subR_ok, Am.sub2_ok, Am.bind_ok, Am.bind_ex, Am.lift_ok, Am.lift_ex, Am.iListM, Am.iTupM, Am.iRng1M, Am.iRng2M, Am.gI0, Am.gI, Am.gNeg, Am.gInt, Am.gMin, Am.gMax,
  Am.gAdd_i, Am.gAdd_l, Am.gAdd_t, Am.gAdd_cl, Am.gAdd_lc, Am.gAdd_s, Am.gMul_i, Am.gMul_l, Am.viewL_l, Am.viewL_c, Am.viewS_l, Am.viewS_s, Am.viewS_c, Am.viewS_t, Am.viewS_kt, Am.viewS_str, Am.viewT_t, Am.viewT_kt, Am.gLen_l, Am.gLen_s, Am.gLen_t, Am.gLen_kt, Am.gLen_c, Am.lenC_l, Am.lenC_fl, Am.lenC_k, Am.lenC_t, Am.ixC_l, Am.ixC_fl, Am.gListOf_l, Am.gListOf_s, Am.gListOf_t, Am.gListOf_kt, Am.gListOf_c, Am.gTupOf_l, Am.gTupOf_t, Am.gTupOf_c, Am.gIx_l, Am.gIx_s, Am.gIx_t, Am.gIx_kt, Am.gIx_c, Am.gSl_l, Am.gSl_t, Am.gSl_c, Am.gRev_l, Am.gRev_c, Am.atI_0, Am.atI_1, Am.atI_2, Am.atI_3, Am.atI_4, Am.atI_5, Am.gIs_n, Am.gIs_l, Am.gIs_t, Am.gIs_i, Am.gIs_s, Am.gIs_kt, Am.gEq_if, Am.gEq_it, Am.gIs_c, Am.gIs_b, Am.frz_d, Am.gAppend, Am.gExtend, Am.gPopAt, Am.gSet, Am.gIxM,
  Am.need_pos, Am.ifc_pos, Am.needO_true, Am.truthA, Am.truthD, Am.mkL_c, Am.mkL_e, Am.mkT_e, Am.allD, Am.allD_map, Am.allD_append, Option.bind_some, List.getElem?_set_self, List.getElem?_set_ne, List.set_set, List.length_map, List.length_range, Int.toNat_natCast, Am.loc_get, Am.loc_get0, Am.loc_set, Am.loc_set0, Am.loc_push, Am.loc_len, Am.exit2_d, Am.exit2_d0, Am.exitR_0, Am.turn, Am.nxt_nx, Am.nxt_ct,
  List.length_cons, List.length_nil, List.map_cons, List.map_nil, List.cons_append, List.nil_append, List.replicate_succ, List.replicate_zero, List.getElem?_cons_zero, List.getElem?_cons_succ, List.getElem?_nil, List.set_cons_zero, List.set_cons_succ, List.append_nil, List.isEmpty_nil, List.isEmpty_cons, Nat.reduceAdd, Nat.reduceSub, Nat.add_zero, Nat.zero_add, if_pos, if_true, if_false, Bool.false_eq_true, Bool.not_true, Bool.true_and, Bool.and_true, Bool.false_and, Bool.and_false, Bool.not_false, Option.map_some, Option.map_none, decide_true, decide_false, ite_true, ite_false, *])
namespace Lw
open PySem PySem.Spec PyProof.Rows L2 Am
section
variable {P : Program} {w : World} {K : PySem.W.Frag} {mg : Str → Option Value} {base : Heap}
theorem cbelow_d (n : Nat) (ds : List D) : CBelow n (.lst (ds.map A.d)) := fun a h => by
  obtain ⟨d, _, rfl⟩ := List.mem_map.mp h
  trivial
theorem x_between (i l h : Int) (st : Store) : m_is_between [.d (.int i), .d (.int l), .d (.int h)] st = .ok (.d (.bl (decide (l ≤ i) && decide (i ≤ h)))) st := by
  unfold m_is_between b_is_between
  walk_at "ev"
  by_cases h1 : l ≤ i
  · rw [chR_pos h1, decide_eq_true h1]
    walk_at "ev"
  · rw [chR_neg h1, decide_eq_false h1]
    walk_at "ev"
structure DS where
  sizes : D
  powered : Bool
  fuse : D
  losses : Int
  reads : Int
  writes : Int
  syncs : Int
  in_use : Bool
  formatted : Bool
  scrub : Int
abbrev DS.fs (s : DS) (M W T : Nat) : List (Str × A) := F_Disks (.d s.sizes) (.c M) (.c W) (.c T) (.d (.bl s.powered)) (.d s.fuse) (.d (.int s.losses)) (.d (.int s.reads)) (.d (.int s.writes)) (.d (.int s.syncs)) (.d (.bl s.in_use)) (.d (.bl s.formatted)) (.d (.int s.scrub))
abbrev DS.root (s : DS) : Root := fun M W T => .ins "Disks" (s.fs M W T)
abbrev HK (s : DS) (n : Nat) (f g : Nat → List D) (t : Nat → Bool) (pl : Ro → Nat) (st : Store) : Prop := H3 s.root n f g t pl st
/-- a waiting write, as data -/
abbrev wD (p : Nat × D) : D := .tup [.int (p.1 : Nat), p.2]
/-- an operation is made -/
def Goes (s : DS) : Prop := s.powered = true ∧ (s.fuse = .non ∨ ∃ k : Int, s.fuse = .int k ∧ k ≠ 0)
def DS.op (s : DS) : DS := match s.fuse with
  | .int k => { s with fuse := .int (k - 1) }
  | _ => s
def DS.fail (s : DS) : DS := { s with powered := false, fuse := .non, losses := s.losses + 1, in_use := false }
section
variable {s : DS} {n : Nat} {f g : Nat → List D} {t : Nat → Bool} {pl : Ro → Nat} {st : Store}
theorem HK.o (h : HK s n f g t pl st) : st[pl .o]? = some (.ins "Disks" (s.fs (pl .M) (pl .W) (pl .T))) := H3.o h
theorem HK.lo (h : HK s n f g t pl st) : pl .o < st.length := Holds.lt h trivial
theorem foot_o {n : Nat} {pl : Ro → Nat} : F3 n pl (pl .o) := ⟨.o, trivial, rfl⟩
theorem foot_W {n : Nat} {pl : Ro → Nat} : F3 n pl (pl .W) := ⟨.W, trivial, rfl⟩
theorem foot_M {n : Nat} {pl : Ro → Nat} : F3 n pl (pl .M) := ⟨.M, trivial, rfl⟩
theorem foot_T {n : Nat} {pl : Ro → Nat} : F3 n pl (pl .T) := ⟨.T, trivial, rfl⟩
theorem foot_w {n : Nat} {pl : Ro → Nat} {d : Nat} (h : d < n) : F3 n pl (pl (.w d)) := ⟨.w d, h, rfl⟩
theorem foot_m {n : Nat} {pl : Ro → Nat} {d : Nat} (h : d < n) : F3 n pl (pl (.m d)) := ⟨.m d, h, rfl⟩
theorem x_is_there (h : HK s n f g t pl st) {d : Nat} (hd : d < n) : m_Disks_is_there [.c (pl .o), .d (.int d)] st = .ok (.d (.bl (t d))) st := by
  have eo := h.o
  have eT := h.T
  have ed := atI_range n (fun d => A.d (.bl (t d))) hd
  unfold m_Disks_is_there b_Disks_is_there
  walk_at "ev*"
theorem x_operation (h : HK s n f g t pl st) (go : Goes s) : ∃ st1, m_Disks__operation [.c (pl .o)] st = .ok (.d .non) st1 ∧ HK s.op n f g t pl st1 ∧ Chg (F3 n pl) st st1 := by
  have eo := h.o
  obtain ⟨hp, hf | ⟨k, hf, hk⟩⟩ := go
  · refine ⟨st, ?_, ?_, .refl _ _⟩
    · unfold m_Disks__operation b_Disks__operation
      walk_at "ev*"
    · unfold DS.op
      simp only [hf]
      exact h
  · refine ⟨_, ?_, h.setO s.op.root, .set foot_o _ _⟩
    unfold m_Disks__operation b_Disks__operation
    have e1 : s.op = { s with fuse := .int (k - 1) } := by unfold DS.op; rw [hf]
    walk_at "ev*"
theorem x_operation_off (h : HK s n f g t pl st) (hp : s.powered = false) : m_Disks__operation [.c (pl .o)] st = .ex ⟨"PowerOff", none⟩ st := by
  have eo := h.o
  unfold m_Disks__operation b_Disks__operation
  walk_at "ev*"
theorem x_fail (h : HK s n f g t pl st) : ∃ st1, m_Disks__fail [.c (pl .o)] st = .ok (.d .non) st1 ∧ HK s.fail n f g t pl st1 ∧ Chg (F3 n pl) st st1 := by
  refine ⟨_, ?_, h.setO s.fail.root, .set foot_o _ _⟩
  have eo := h.o
  have lo := h.lo
  unfold m_Disks__fail b_Disks__fail
  walk_at "ev*"
  rfl
theorem x_operation_fail (h : HK s n f g t pl st) (hp : s.powered = true) (hf : s.fuse = .int 0) : ∃ st1, m_Disks__operation [.c (pl .o)] st = .ex ⟨"PowerOff", none⟩ st1 ∧ HK s.fail n f g t pl st1 ∧ Chg (F3 n pl) st st1 := by
  have eo := h.o
  obtain ⟨st1, e1, h1, c1⟩ := x_fail h
  refine ⟨st1, ?_, h1, c1⟩
  unfold m_Disks__operation b_Disks__operation
  walk_at "ev*"
theorem x_write (h : HK s n f g t pl st) (go : Goes s) {d : Nat} (hd : d < n) {a : A} {data : List D} (hv : viewS st a = some (data.map .d)) (ha : ∀ i, a = .c i → ¬ F3 n pl i) (hl : data.length ≤ 1000) (hw : (g d).length < 1000000) (sec : Int) :
    ∃ st1, m_Disks_write [.c (pl .o), .d (.int d), .d (.int sec), a] st = .ok (.d .non) st1 ∧ HK (if t d then { s.op with writes := s.op.writes + 1 } else s.op) n f (if t d then fset g d (g d ++ [D.tup [.int sec, .list data]]) else g) t pl st1 ∧ Chg (F3 n pl) st st1 := by
  obtain ⟨st1, e1, h1, c1⟩ := x_operation h go
  have eo := h.o
  have eo1 := h1.o
  have eT1 := h1.T
  have eW1 := h1.W
  have ew1 := h1.w hd
  have ed := atI_range n (fun d => A.d (.bl (t d))) hd
  have ed2 := atI_range n (fun d => A.c (pl (.w d))) hd
  have ev := gListOf_v (k := false) (viewS_chg c1 hv ha)
  have lo1 := h1.lo
  by_cases hb : t d = true
  · rw [if_pos hb, if_pos hb]
    have h2 := h1.setw hd (g d ++ [D.tup [.int sec, .list data]])
    have eo2 := HK.o h2
    refine ⟨_, ?_, h2.setO { s.op with writes := s.op.writes + 1 }.root, (c1.trans (.refl _ _) (.set (foot_w hd) _ _)).trans (.refl _ _) (.set foot_o _ _)⟩
    unfold m_Disks_write b_Disks_write
    have ea : (g d).map A.d ++ [A.d (.tup [.int sec, .list data])] = (g d ++ [D.tup [.int sec, .list data]]).map A.d := by rw [List.map_append]; rfl
    walk_at "ev*"
  · rw [if_neg hb, if_neg hb]
    have hb : t d = false := by cases h : t d; rfl; exact absurd h hb
    refine ⟨st1, ?_, h1, c1⟩
    unfold m_Disks_write b_Disks_write
    walk_at "ev*"
end
end
end Lw
namespace Lw
open PySem PySem.Spec PyProof.Rows L2 Am
section
variable {P : Program} {w : World} {K : PySem.W.Frag} {mg : Str → Option Value} {base : Heap}
/-- what a row of waiting writes and a medium show of a sector -/
def cellV (row : List D) (ws : List (Nat × D)) (sec : Nat) : D := match ws.reverse.find? (fun p => p.1 == sec) with
  | some p => p.2
  | none => row.getD sec .non
/-- a sector's bytes -/
def Sec (x : D) : Prop := ∃ bs : List D, x = .list bs ∧ bs.length ≤ 1000 ∧ ∃ ns : List Nat, bs = ns.map (fun n => D.int (n : Nat)) ∧ ns.length = 32 ∧ ∀ b ∈ ns, b < 256
/-- .. or none -/
def Sec? (x : D) : Prop := x = .non ∨ Sec x
section
variable {s : DS} {n : Nat} {f g : Nat → List D} {t : Nat → Bool} {pl : Ro → Nat} {st : Store}
theorem x_cell (h : HK s n f g t pl st) {d sec : Nat} (hd : d < n) {ws : List (Nat × D)} (hg : g d = ws.map wD) (hws : ∀ p ∈ ws, Sec p.2) (hs : ∀ x, (f d)[sec]? = some x → Sec? x) (hl : sec < (f d).length) :
    m_Disks_cell [.c (pl .o), .d (.int d), .d (.int sec)] st = .ok (.d (if t d then cellV (f d) ws sec else .non)) st := by
  have eo := h.o
  have eT := h.T
  have eW := h.W
  have eM := h.M
  have em := h.m hd
  have ew := h.w hd
  have ed := atI_range n (fun d => A.d (.bl (t d))) hd
  have ed2 := atI_range n (fun d => A.c (pl (.w d))) hd
  have ed3 := atI_range n (fun d => A.c (pl (.m d))) hd
  rw [hg] at ew
  unfold m_Disks_cell b_Disks_cell
  cases hb : t d with
  | false =>
    walk_at "ev*"
  | true =>
    unfold iReversedM
    walk_at "ev*"
    generalize ho : forA _ _ _ _ _ _ = o
    rcases forA_find ho (fun i σ s1 => ∃ y1 y2, σ = [some (.c (pl .o)), some (.d (.int d)), some (.d (.int sec)), y1, y2] ∧ s1 = st) (fun a => match a with | .d (.tup [.int i, _]) => decide (i = (sec : Int)) | _ => false) ⟨_, _, rfl, rfl⟩
      (fun i σ s1 _ ⟨y1, y2, _, e⟩ => by
        subst e
        walk_at "ev*")
      (fun i x σ s1 hx hp ⟨y1, y2, e1, e2⟩ => by
        subst e1 e2
        rw [← List.map_reverse, ← List.map_reverse, List.getElem?_map, List.getElem?_map] at hx
        obtain ⟨z, hz, rfl⟩ := Option.map_eq_some_iff.mp hx
        obtain ⟨p, hp', rfl⟩ := Option.map_eq_some_iff.mp hz
        have hp : decide ((p.1 : Int) = sec) = false := hp
        walk_at "ev*"
        exact ⟨_, _, rfl, trivial⟩)
      (fun i x σ s1 hx hp ⟨y1, y2, e1, e2⟩ => by
        subst e1 e2
        rw [← List.map_reverse, ← List.map_reverse, List.getElem?_map, List.getElem?_map] at hx
        obtain ⟨z, hz, rfl⟩ := Option.map_eq_some_iff.mp hx
        obtain ⟨p, hp', rfl⟩ := Option.map_eq_some_iff.mp hz
        have hp : decide ((p.1 : Int) = sec) = true := hp
        obtain ⟨bs, e3, l3, _⟩ := hws p (List.mem_reverse.mp (List.mem_of_getElem? hp'))
        have hl3 : (bs.map A.d).length ≤ SZ := by rw [List.length_map]; unfold SZ; omega
        walk_at "ev*"
        exact ⟨_, _, rfl⟩) with ⟨z1, σ', st', rfl, y1, y2, rfl, rfl⟩ | ⟨x, i, σ1, st1, z1, z2, ⟨y1, y2, rfl, rfl⟩, rfl⟩
    · have hc : cellV (f d) ws sec = (f d).getD sec .non := by
        unfold cellV
        rw [← List.map_reverse, ← List.map_reverse, List.find?_map, List.find?_map] at z1
        have z2 : ws.reverse.find? (fun p => p.1 == sec) = none := by
          rw [List.find?_eq_none]
          intro p hp
          simp only [Option.map_eq_none_iff] at z1
          have := List.find?_eq_none.mp z1 p hp
          have : ¬ ((p.1 : Int) = sec) := by simpa using this
          have : ¬ p.1 = sec := by omega
          simpa using this
        rw [z2]
      rw [hc]
      have hx : (f d)[sec]? = some ((f d).getD sec .non) := by rw [List.getD_eq_getElem?_getD, List.getElem?_eq_getElem hl]; rfl
      have hx2 : atI ((f d).map A.d) (sec : Int) = some (.d ((f d).getD sec .non)) := atI_nat (by rw [List.getElem?_map, hx]; rfl)
      rcases hs _ hx with e | ⟨bs, e, l, _⟩
      · rw [e] at hx2 ⊢
        walk_at "ev*"
      · rw [e] at hx2 ⊢
        have hl3 : (bs.map A.d).length ≤ SZ := by rw [List.length_map]; unfold SZ; omega
        walk_at "ev*"
    · rw [← List.map_reverse, ← List.map_reverse, List.find?_map, List.find?_map] at z1
      obtain ⟨q1, z4, rfl⟩ := Option.map_eq_some_iff.mp z1
      obtain ⟨q, z5, rfl⟩ := Option.map_eq_some_iff.mp z4
      have z3 : ws.reverse.find? (fun p => p.1 == sec) = some q := by
        rw [← z5]
        congr 1
        funext p
        show (p.1 == sec) = decide ((p.1 : Int) = sec)
        by_cases e : p.1 = sec
        · rw [decide_eq_true (by omega)]; simpa using e
        · rw [decide_eq_false (by omega)]; simpa using e
      have hq : decide ((q.1 : Int) = sec) = true := by
        have := List.find?_some z3
        have : q.1 = sec := by simpa using this
        exact decide_eq_true (by omega)
      have hc : cellV (f d) ws sec = q.2 := by unfold cellV; rw [z3]
      rw [hc]
      obtain ⟨bs, e3, l3, _⟩ := hws q (List.mem_reverse.mp (List.mem_of_find?_eq_some z3))
      have hl3 : (bs.map A.d).length ≤ SZ := by rw [List.length_map]; unfold SZ; omega
      rw [e3]
      unfold wD
      rw [e3]
      walk_at "ev*"
theorem x_ask (h : HK s n f g t pl st) {d sec : Nat} (hd : d < n) {ws : List (Nat × D)} (hg : g d = ws.map wD) (hws : ∀ p ∈ ws, Sec p.2) (hs : ∀ x, (f d)[sec]? = some x → Sec? x) (hl : sec < (f d).length) :
    ∃ st1, m_Disks_ask [.c (pl .o), .d (.int d), .d (.int sec)] st = .ok (.d (if t d then cellV (f d) ws sec else .non)) st1 ∧ HK (if t d then { s with reads := s.reads + 1 } else s) n f g t pl st1 ∧ Chg (F3 n pl) st st1 := by
  have eo := h.o
  have eT := h.T
  have ed := atI_range n (fun d => A.d (.bl (t d))) hd
  cases hb : t d with
  | false =>
    have ec := x_cell h hd hg hws hs hl
    refine ⟨st, ?_, h, .refl _ _⟩
    unfold m_Disks_ask b_Disks_ask
    rw [hb] at ec
    simp only [Bool.false_eq_true, if_false] at ec
    walk_at "ev*"
  | true =>
    have h1 := h.setO { s with reads := s.reads + 1 }.root
    have ec := x_cell (s := { s with reads := s.reads + 1 }) h1 hd hg hws hs hl
    refine ⟨_, ?_, h1, Chg.set foot_o _ _⟩
    have eo1 := HK.o (s := { s with reads := s.reads + 1 }) h1
    unfold m_Disks_ask b_Disks_ask
    rw [hb] at ec
    simp only [if_true] at ec
    walk_at "ev*"
end
end
end Lw
namespace Lw
open PySem PySem.Spec PyProof.Rows L2 Am
section
variable {P : Program} {w : World} {K : PySem.W.Frag} {mg : Str → Option Value} {base : Heap}
/-- what arrives of a row -/
def layL (row : List D) : List (Nat × D) → List Bool → List D
  | p :: ws, k :: ks => layL (if k then row.set p.1 p.2 else row) ws ks
  | _, _ => row
theorem layL_len : ∀ (ws : List (Nat × D)) (ks : List Bool) (row : List D), (layL row ws ks).length = row.length
  | [], _, _ => by rw [layL]; intros; simp_all
  | _ :: _, [], _ => by rw [layL]; intros; simp_all
  | p :: ws, k :: ks, row => by
    rw [layL, layL_len ws ks]
    cases k <;> simp
theorem layL_snoc {p : Nat × D} {k : Bool} : ∀ (ws : List (Nat × D)) (ks : List Bool) (row : List D), ws.length = ks.length → layL row (ws ++ [p]) (ks ++ [k]) = if k then (layL row ws ks).set p.1 p.2 else layL row ws ks
  | [], [], row, _ => rfl
  | [], _ :: _, _, h => by cases h
  | _ :: _, [], _, h => by cases h
  | q :: ws, j :: ks, row, h => by
    show layL _ (ws ++ [p]) (ks ++ [k]) = _
    rw [layL_snoc ws ks _ (by simpa using h)]
    rfl
theorem layL_zip : ∀ (ws : List (Nat × D)) (ks : List Bool) (row : List D), layL row (ws.take (min ws.length ks.length)) (ks.take (min ws.length ks.length)) = layL row ws ks
  | [], ks, row => by simp [layL]
  | _ :: _, [], row => by simp [layL]
  | p :: ws, k :: ks, row => by
    rw [List.length_cons, List.length_cons, Nat.succ_min_succ, List.take_succ_cons, List.take_succ_cons]
    exact layL_zip ws ks _
theorem layL_all {P : D → Prop} : ∀ (ws : List (Nat × D)) (ks : List Bool) (row : List D), (∀ x ∈ row, P x) → (∀ p ∈ ws, P p.2) → ∀ x ∈ layL row ws ks, P x
  | [], _, row, h, _ => by simpa [layL] using h
  | _ :: _, [], row, h, _ => by simpa [layL] using h
  | p :: ws, k :: ks, row, h, hw => by
    show ∀ x ∈ layL (if k then row.set p.1 p.2 else row) ws ks, P x
    refine layL_all ws ks _ ?_ fun q hq => hw q (List.mem_cons_of_mem _ hq)
    cases k with
    | false => exact h
    | true =>
      intro x hx
      rcases List.mem_or_eq_of_mem_set hx with hx | hx
      · exact h x hx
      · rw [hx]; exact hw p List.mem_cons_self
section
variable {s : DS} {n : Nat} {f g : Nat → List D} {t : Nat → Bool} {pl : Ro → Nat} {st : Store}
theorem rowsA (ws : List (Nat × D)) (x : A) (i : Nat) (bs : List Bool) (h : (zipD (ws.map wD) (bs.map D.bl))[i]? = some x) : ∃ p b, ws[i]? = some p ∧ bs[i]? = some b ∧ x = .d (.tup [wD p, .bl b]) := by
  obtain ⟨y, z, h1, h2, rfl⟩ := zipD_get h
  rw [List.getElem?_map] at h1 h2
  obtain ⟨p, hp, rfl⟩ := Option.map_eq_some_iff.mp h1
  obtain ⟨b, hb, rfl⟩ := Option.map_eq_some_iff.mp h2
  exact ⟨p, b, hp, hb, rfl⟩
theorem x_lay (h : HK s n f g t pl st) {d : Nat} (hd : d < n) {ws : List (Nat × D)} (hg : g d = ws.map wD) (hs : ∀ p ∈ ws, p.1 < (f d).length) {a : A} {ks : List Bool} (hv : viewS st a = some ((ks.map D.bl).map A.d)) (ha : ∀ i, a = .c i → ¬ F3 n pl i) :
    ∃ st1 pl1, m_Disks__lay [.c (pl .o), .d (.int d), a] st = .ok (.d .non) st1 ∧ HK s n (fset f d (layL (f d) ws ks)) (fset g d []) t pl1 st1 ∧ Chg (F3 n pl) st st1 ∧ Sub (F3 n pl) st (F3 n pl1) ∧ pl1 .o = pl .o := by
  have eo := h.o
  have eT := h.T
  have eW := h.W
  have ew := h.w hd
  have ed2 := atI_range n (fun d => A.c (pl (.w d))) hd
  have ed3 := atI_range n (fun d => A.c (pl (.m d))) hd
  rw [hg] at ew
  have hvw : viewS st (.c (pl (.w d))) = some ((ws.map wD).map A.d) := by rw [viewS_c, ew]
  unfold m_Disks__lay b_Disks__lay
  unfold iZipM
  have hb1 : (viewS st (.c (pl (.w d)))).bind allD = some (ws.map wD) := by rw [hvw, Option.bind_some, allD_map]
  have hb2 : (viewS st a).bind allD = some (ks.map D.bl) := by rw [hv, Option.bind_some, allD_map]
  walk_at "ev*"
  generalize ho : forA _ _ _ _ _ _ = o
  have zl : (zipD (ws.map wD) (ks.map D.bl)).length = min ws.length ks.length := by rw [zipD_len, List.length_map, List.length_map]
  obtain ⟨σ1, st1, rfl, y1, y2, y3, rfl, h1, c1⟩ := forL_nx ho (fun i σ s1 => ∃ y1 y2 y3, σ = [some (.c (pl .o)), some (.d (.int d)), some a, y1, y2, y3] ∧ HK s n (fset f d (layL (f d) (ws.take i) (ks.take i))) g t pl s1 ∧ Chg (F3 n pl) st s1)
    ⟨_, _, _, rfl, H3.rows h (fun e _ => by
      by_cases z : e = d
      · subst z; rw [fset_same]; rfl
      · rw [fset_ne z]) (fun _ _ => rfl) (fun _ _ => rfl), .refl _ _⟩
    (fun i σ s1 _ ⟨y1, y2, y3, e1, h1, c1⟩ => by
      have ew1 := H3.w h1 hd
      rw [hg] at ew1
      refine ⟨?_, viewS_chg c1 hv ha⟩
      walk_at "ev*")
    (fun i x σ s1 hx ⟨y1, y2, y3, e1, h1, c1⟩ => by
      subst e1
      obtain ⟨p, b, hp, hb, rfl⟩ := rowsA _ _ _ _ hx
      have e2 : layL (f d) (ws.take (i + 1)) (ks.take (i + 1)) = if b then (layL (f d) (ws.take i) (ks.take i)).set p.1 p.2 else layL (f d) (ws.take i) (ks.take i) := by
        rw [take_succ_get hp, take_succ_get hb, layL_snoc]
        have := (List.getElem?_eq_some_iff.mp hp).1
        have := (List.getElem?_eq_some_iff.mp hb).1
        rw [List.length_take, List.length_take]; omega
      have eo1 := HK.o h1
      have eM1 := H3.M h1
      have em1 := H3.m h1 hd
      rw [fset_same] at em1
      have lp : p.1 < (((layL (f d) (ws.take i) (ks.take i))).map A.d).length := by rw [List.length_map, layL_len]; exact hs p (List.mem_of_getElem? hp)
      have es := fun σ => sub3_l em1 lp (.d p.2) σ
      rw [e2]
      cases b with
      | false =>
        walk_at "ev*"
        exact ⟨_, _, _, rfl, trivial, trivial⟩
      | true =>
        walk_at "ev*"
        refine ⟨_, _, _, rfl, ?_, c1.trans (.refl _ _) (.set (foot_m hd) _ _)⟩
        have h2 := H3.setm h1 hd ((layL (f d) (ws.take i) (ks.take i)).set p.1 p.2)
        rw [List.map_set] at h2
        refine H3.rows h2 (fun e _ => ?_) (fun _ _ => rfl) (fun _ _ => rfl)
        by_cases z : e = d
        · subst z; rw [fset_same, fset_same]
        · rw [fset_ne z, fset_ne z, fset_ne z])
  have e3 : layL (f d) (ws.take (zipD (ws.map wD) (ks.map D.bl)).length) (ks.take (zipD (ws.map wD) (ks.map D.bl)).length) = layL (f d) ws ks := by rw [zl, layL_zip]
  rw [e3] at h1
  have eo1 := HK.o h1
  have eW1 := H3.W h1
  have lW : d < ((List.range n).map fun d => A.c (pl (.w d))).length := by rw [List.length_map, List.length_range]; exact hd
  have es := fun σ => sub3_l (base_get eW1 [.lst []]) lW (.c st1.length) σ
  have eo2 := base_get eo1 [.lst []]
  refine ⟨_, _, ?_, H3.neww h1 hd [], c1.trans (.refl _ _) (.appset foot_W _ _ _), fun i hi => (foot_upd i hi).imp id fun z => Nat.le_trans c1.1 z, plUpd_ne (show Ro.o ≠ Ro.w d from fun z => nomatch z) _⟩
  walk_at "ev*"
end
end
end Lw
namespace Lw
open PySem PySem.Spec PyProof.Rows L2 Am
section
variable {P : Program} {w : World} {K : PySem.W.Frag} {mg : Str → Option Value} {base : Heap}
section
variable {s : DS} {n : Nat} {f g : Nat → List D} {t : Nat → Bool} {pl : Ro → Nat} {st : Store}
theorem x_away (h : HK s n f g t pl st) {d : Nat} (hd : d < n) :
    ∃ st1 pl1, m_Disks_away [.c (pl .o), .d (.int d)] st = .ok (.d .non) st1 ∧ HK s n f (fset g d []) (fset t d false) pl1 st1 ∧ Chg (F3 n pl) st st1 ∧ Sub (F3 n pl) st (F3 n pl1) ∧ pl1 .o = pl .o := by
  have eo := h.o
  have lT : d < ((List.range n).map fun d => A.d (.bl (t d))).length := by rw [List.length_map, List.length_range]; exact hd
  have es := fun σ => sub3_l h.T lT (.d (.bl false)) σ
  have h1 := h.setT d false
  have c1 : Chg (F3 n pl) st (st.set (pl .T) (.lst (((List.range n).map fun d => A.d (.bl (t d))).set d (.d (.bl false))))) := .set foot_T _ _
  unfold m_Disks_away b_Disks_away
  walk_at "ev*"
  generalize st.set (pl .T) (.lst (((List.range n).map fun d => A.d (.bl (t d))).set d (.d (.bl false)))) = st1 at *
  have eo1 := HK.o h1
  have eo2 := base_get eo1 [.lst []]
  have lW : d < ((List.range n).map fun d => A.c (pl (.w d))).length := by rw [List.length_map, List.length_range]; exact hd
  have es2 := fun σ => sub3_l (base_get (H3.W h1) [.lst []]) lW (.c st1.length) σ
  refine ⟨_, _, ?_, H3.neww h1 hd [], c1.trans (.refl _ _) (.appset foot_W _ _ _), fun i hi => (foot_upd i hi).imp id fun z => Nat.le_trans c1.1 z, plUpd_ne (show Ro.o ≠ Ro.w d from fun z => nomatch z) _⟩
  clear es
  walk_at "ev*"
end
end
end Lw
namespace Lw
open PySem PySem.Spec PyProof.Rows L2 Am
section
variable {P : Program} {w : World} {K : PySem.W.Frag} {mg : Str → Option Value} {base : Heap}
section
variable {s : DS} {n : Nat} {f g : Nat → List D} {t : Nat → Bool} {pl : Ro → Nat} {st : Store}
/-- the first i rows changed -/
def upTo {α : Type} (i : Nat) (a b : Nat → α) : Nat → α := fun e => if e < i then a e else b e
theorem upTo_set {α : Type} (i : Nat) (a b : Nat → α) (e : Nat) : fset (upTo i a b) i (a i) e = upTo (i + 1) a b e := by
  unfold fset upTo
  by_cases h : e = i
  · subst h; rw [if_pos rfl, if_pos (Nat.lt_succ_self _)]
  · rw [if_neg h]
    by_cases h2 : e < i
    · rw [if_pos h2, if_pos (by omega)]
    · rw [if_neg h2, if_neg (by omega)]
theorem upTo_at {α : Type} (i : Nat) (a b : Nat → α) : upTo i a b i = b i := if_neg (Nat.lt_irrefl i)
theorem upTo_lt {α : Type} {i e : Nat} (h : e < i) (a b : Nat → α) : upTo i a b e = a e := if_pos h
theorem x_sync (h : HK s n f g t pl st) (go : Goes s) (hn : n ≤ 1000) {ws : Nat → List (Nat × D)} (hg : ∀ d, d < n → g d = (ws d).map wD) (hs : ∀ d, d < n → ∀ p ∈ ws d, p.1 < (f d).length) (hl : ∀ d, d < n → (ws d).length ≤ 1000000) :
    ∃ st1 pl1, m_Disks_sync [.c (pl .o)] st = .ok (.d .non) st1 ∧ HK { s.op with syncs := s.op.syncs + 1 } n (fun d => layL (f d) (ws d) ((ws d).map fun _ => true)) (fun _ => []) t pl1 st1 ∧ Chg (F3 n pl) st st1 ∧ Am.Sub (F3 n pl) st (F3 n pl1) ∧ pl1 .o = pl .o := by
  obtain ⟨st1, e1, h1, c1⟩ := x_operation h go
  have eo := h.o
  have eo1 := h1.o
  have eM1 := h1.M
  unfold m_Disks_sync b_Disks_sync
  walk_at "ev*"
  generalize ho : forA _ _ _ _ _ _ = o
  obtain ⟨σ2, st2, rfl, y1, y2, pl2, rfl, h2, c2, s2, o2⟩ := forR_nx ho (fun i σ s2 => ∃ y1 y2 pl2, σ = [some (.c (pl .o)), y1, y2] ∧ HK s.op n (upTo i (fun d => layL (f d) (ws d) ((ws d).map fun _ => true)) f) (upTo i (fun _ => []) g) t pl2 s2 ∧ Chg (F3 n pl) st s2 ∧ Am.Sub (F3 n pl) st (F3 n pl2) ∧ pl2 .o = pl .o)
    ⟨_, _, _, rfl, h1.rows (fun _ _ => rfl) (fun _ _ => rfl) (fun _ _ => rfl), c1, .refl _ _, rfl⟩ (fun _ _ _ _ _ => trivial) (fun i σ s2 hi ⟨y1, y2, pl2, e, h2, c2, b2, o2⟩ => by
      subst e
      have eo2 := HK.o h2
      rw [o2] at eo2
      have eW2 := H3.W h2
      have ew2 := H3.w h2 hi
      rw [upTo_at, hg i hi] at ew2
      have ed2 := atI_range n (fun d => A.c (pl2 (.w d))) hi
      rw [show (0 : Int) + (i : Int) = (i : Int) by omega]
      walk_at "ev*"
      rw [mLc_all (xs := ((ws i).map wD).map A.d) (st1 := s2) (fun _ => .bl true) (by
        walk_at "ev*"
        rfl) (fun ds => by rw [base_get ew2]) (by rw [List.length_map, List.length_map]; have := hl i hi; unfold SZ; omega) (fun x _ ac => ⟨_, rfl, rfl⟩)]
      have hv : viewS s2 (.d (.list ((((ws i).map wD).map A.d).map fun _ => D.bl true))) = some ((((ws i).map fun _ => true).map D.bl).map A.d) := by
        rw [viewS_l, List.map_map, List.map_map, List.map_map, List.map_map, List.map_map]
        rfl
      have hgi : upTo i (fun _ => []) g i = (ws i).map wD := by rw [upTo_at]; exact hg i hi
      obtain ⟨s3, pl3, e3, h3, c3, b3, o3⟩ := x_lay h2 hi hgi (fun p hp => by rw [upTo_at]; exact hs i hi p hp) hv (fun _ z => nomatch z)
      rw [o2] at e3
      walk_at "ev*"
      refine ⟨_, _, pl3, rfl, H3.rows h3 (fun e _ => ?_) (fun e _ => upTo_set i (fun _ => []) g e) (fun _ _ => rfl), c2.trans b2 c3, b2.trans c2.1 b3, o3.trans o2⟩
      rw [upTo_at]
      exact upTo_set i (fun d => layL (f d) (ws d) ((ws d).map fun _ => true)) f e)
  have eo2 := HK.o h2
  rw [o2] at eo2
  have h3 := H3.setO h2 { s.op with syncs := s.op.syncs + 1 }.root
  rw [o2] at h3
  refine ⟨_, pl2, ?_, H3.rows h3 (fun d hd => upTo_lt hd _ _) (fun d hd => upTo_lt hd _ _) (fun _ _ => rfl), c2.trans s2 (.set ⟨.o, trivial, o2⟩ _ _), s2, o2⟩
  walk_at "ev*"
/-- power comes back -/
def DS.back (s : DS) : DS := { (if s.powered then s.fail else s) with powered := true, fuse := .non }
theorem x_power (h : HK s n f g t pl st) (hn : n ≤ 1000) {ws : Nat → List (Nat × D)} (hg : ∀ d, d < n → g d = (ws d).map wD) (hs : ∀ d, d < n → ∀ p ∈ ws d, p.1 < (f d).length) {a : A} {kss : List (List Bool)} (hv : viewS st a = some (kss.map fun ks => A.d (.list (ks.map .bl)))) (ha : ∀ i, a = .c i → ¬ F3 n pl i) :
    ∃ st1 pl1, m_Disks_power [.c (pl .o), a] st = .ok (.d .non) st1 ∧ HK s.back n (fun d => layL (f d) (ws d) (kss.getD d [])) (fun _ => []) t pl1 st1 ∧ Chg (F3 n pl) st st1 ∧ Am.Sub (F3 n pl) st (F3 n pl1) ∧ pl1 .o = pl .o := by
  have eo := h.o
  obtain ⟨s0, st1, hs0, e1, h1, c1⟩ : ∃ s0 st1, (if s.powered then s.fail else s) = s0 ∧ (∀ k : MS, seqO (mIf (mTru (mFld isF "_powered" (mVar 0))) (mDo (mMeth "Disks" "_fail" m_Disks__fail (mVar 0) mNil)) mSkip [some (.c (pl .o)), some a, none, none] st) k = k [some (.c (pl .o)), some a, none, none] st1) ∧ HK s0 n f g t pl st1 ∧ Chg (F3 n pl) st st1 := by
    cases hp : s.powered with
    | true =>
      obtain ⟨st1, e1, h1, c1⟩ := x_fail h
      refine ⟨s.fail, st1, rfl, fun k => ?_, h1, c1⟩
      walk_at "ev*"
    | false =>
      refine ⟨s, st, rfl, fun k => ?_, h, .refl _ _⟩
      walk_at "ev*"
  have eo1 := h1.o
  have eM1 := h1.M
  unfold m_Disks_power b_Disks_power
  rw [mF_2]
  show ∃ st1 pl1, endR 0 st (mSeq _ _ [some (.c (pl .o)), some a, none, none] st) = _ ∧ _
  rw [mSeq_ap, e1]
  clear e1
  walk_at "ev*"
  generalize ho : forA _ _ _ _ _ _ = o
  obtain ⟨σ2, st2, rfl, y1, y2, pl2, rfl, h2, c2, s2, o2⟩ := forR_nx ho (fun i σ s2 => ∃ y1 y2 pl2, σ = [some (.c (pl .o)), some a, y1, y2] ∧ HK s0 n (upTo i (fun d => layL (f d) (ws d) (kss.getD d [])) f) (upTo i (fun _ => []) g) t pl2 s2 ∧ Chg (F3 n pl) st s2 ∧ Am.Sub (F3 n pl) st (F3 n pl2) ∧ pl2 .o = pl .o)
    ⟨_, _, _, rfl, h1.rows (fun _ _ => rfl) (fun _ _ => rfl) (fun _ _ => rfl), c1, .refl _ _, rfl⟩ (fun _ _ _ _ _ => trivial) (fun i σ s2 hi ⟨y1, y2, pl2, e, h2, c2, b2, o2⟩ => by
      subst e
      have eo2 := HK.o h2
      rw [o2] at eo2
      have hv2 := viewS_chg c2 hv ha
      have el := gLen_v hv2
      rw [show (0 : Int) + (i : Int) = (i : Int) by omega]
      have hgi : upTo i (fun _ => []) g i = (ws i).map wD := by rw [upTo_at]; exact hg i hi
      have key : ∀ b, viewS s2 b = some (((kss.getD i []).map D.bl).map A.d) → (∃ d, b = .d d) → ∃ s3 pl3, m_Disks__lay [.c (pl .o), .d (.int i), b] s2 = .ok (.d .non) s3 ∧ HK s0 n (upTo (i + 1) (fun d => layL (f d) (ws d) (kss.getD d [])) f) (upTo (i + 1) (fun _ => []) g) t pl3 s3 ∧ Chg (F3 n pl) st s3 ∧ Am.Sub (F3 n pl) st (F3 n pl3) ∧ pl3 .o = pl .o := fun b hb ⟨d, hd⟩ => by
        obtain ⟨s3, pl3, e3, h3, c3, b3, o3⟩ := x_lay h2 hi hgi (fun p hp => by rw [upTo_at]; exact hs i hi p hp) hb (fun _ z => by rw [hd] at z; cases z)
        rw [o2] at e3
        refine ⟨s3, pl3, e3, H3.rows h3 (fun e _ => ?_) (fun e _ => upTo_set i (fun _ => []) g e) (fun _ _ => rfl), c2.trans b2 c3, b2.trans c2.1 b3, o3.trans o2⟩
        rw [upTo_at]
        exact upTo_set i (fun d => layL (f d) (ws d) (kss.getD d [])) f e
      by_cases hk : i < kss.length
      · have hx : kss[i]? = some (kss.getD i []) := by rw [List.getD_eq_getElem?_getD, List.getElem?_eq_getElem hk]; rfl
        have ei := gIx_v hv2 (atI_nat (xs := kss.map fun ks => A.d (.list (ks.map .bl))) (j := i) (v := .d (.list ((kss.getD i []).map .bl))) (by rw [List.getElem?_map, hx]; rfl))
        obtain ⟨s3, pl3, e3, q⟩ := key (.d (.list ((kss.getD i []).map .bl))) rfl ⟨_, rfl⟩
        have ht : decide ((i : Int) < (kss.length : Int)) = true := decide_eq_true (by omega)
        revert q
        walk_at "ev*"
        intro q
        exact ⟨_, _, pl3, rfl, q⟩
      · obtain ⟨s3, pl3, e3, q⟩ := key (.d (.list [])) (by rw [List.getD_eq_getElem?_getD, List.getElem?_eq_none (by omega)]; rfl) ⟨_, rfl⟩
        have ht : decide ((i : Int) < (kss.length : Int)) = false := decide_eq_false (by omega)
        revert q
        walk_at "ev*"
        intro q
        exact ⟨_, _, pl3, rfl, q⟩)
  have eo2 := HK.o h2
  rw [o2] at eo2
  have lo2 := HK.lo h2
  rw [o2] at lo2
  have h3 := H3.setO h2 s.back.root
  rw [o2] at h3
  refine ⟨_, pl2, ?_, H3.rows h3 (fun d hd => upTo_lt hd _ _) (fun d hd => upTo_lt hd _ _) (fun _ _ => rfl), c2.trans s2 (.set ⟨.o, trivial, o2⟩ _ _), s2, o2⟩
  walk_at "ev*"
  unfold DS.back
  rw [hs0]
end
end
end Lw
namespace Lw
open PySem PySem.Spec PyProof.Rows L2 Am
section
variable {P : Program} {w : World} {K : PySem.W.Frag} {mg : Str → Option Value} {base : Heap}
section
/-- the places of new Disks -/
def plN (b n : Nat) : Ro → Nat
  | .o => b
  | .M => b + 1
  | .m d => b + (2 + d)
  | .W => b + (2 + n)
  | .w d => b + (2 + n + 1 + d)
  | .T => b + (2 + n + 1 + n)
theorem plN_inj (b n : Nat) (r r' : Ro) (hr : is3 n r) (hr' : is3 n r') (e : plN b n r = plN b n r') : r = r' := by
  cases r <;> cases r' <;> simp only [plN, is3] at * <;> first | rfl | omega | (congr 1; omega)
theorem new_holds (st : Store) (n : Nat) (o : Cell) (mc wc : List D) (tb : Bool) {root : Root} (ho : root (st.length + 1) (st.length + (2 + n)) (st.length + (2 + n + 1 + n)) = o) :
    H3 root n (fun _ => mc) (fun _ => wc) (fun _ => tb) (plN st.length n) (st ++ (o :: .lst ((List.range n).map fun i => A.c (st.length + (2 + i))) :: (List.replicate n (.lst (mc.map .d)) ++ .lst ((List.range n).map fun i => A.c (st.length + (2 + n + 1 + i))) :: (List.replicate n (.lst (wc.map .d)) ++ [.lst ((List.range n).map fun _ => A.d (.bl tb))])))) := by
  refine ⟨plN_inj _ _, fun r hr => ?_⟩
  cases r with
  | o => rw [show plN st.length n .o = st.length from rfl, loc_get0, List.getElem?_cons_zero, ← ho]; rfl
  | M => rw [show plN st.length n .M = st.length + 1 from rfl, loc_get]; rfl
  | m d =>
    have hd : d < n := hr
    rw [show plN st.length n (.m d) = st.length + (2 + d) from rfl, loc_get, show 2 + d = d + 1 + 1 by omega, List.getElem?_cons_succ, List.getElem?_cons_succ, List.getElem?_append_left (by rw [List.length_replicate]; exact hd), List.getElem?_replicate, if_pos hd]
    rfl
  | W =>
    rw [show plN st.length n .W = st.length + (2 + n) from rfl, loc_get, show 2 + n = n + 1 + 1 by omega, List.getElem?_cons_succ, List.getElem?_cons_succ, List.getElem?_append_right (by rw [List.length_replicate]; exact Nat.le_refl _), List.length_replicate, Nat.sub_self]
    show some (Cell.lst ((List.range n).map fun i => A.c (st.length + (n + 1 + 1 + 1 + i)))) = some (Cell.lst ((List.range n).map fun i => A.c (st.length + (2 + n + 1 + i))))
    rw [show n + 1 + 1 = 2 + n by omega]
  | w d =>
    have hd : d < n := hr
    rw [show plN st.length n (.w d) = st.length + (2 + n + 1 + d) from rfl, loc_get, show 2 + n + 1 + d = n + d + 1 + 1 + 1 by omega, List.getElem?_cons_succ, List.getElem?_cons_succ, List.getElem?_append_right (by rw [List.length_replicate]; omega), List.length_replicate, show n + d + 1 - n = d + 1 by omega, List.getElem?_cons_succ, List.getElem?_append_left (by rw [List.length_replicate]; exact hd), List.getElem?_replicate, if_pos hd]
    rfl
  | T =>
    rw [show plN st.length n .T = st.length + (2 + n + 1 + n) from rfl, loc_get, show 2 + n + 1 + n = n + n + 1 + 1 + 1 by omega, List.getElem?_cons_succ, List.getElem?_cons_succ, List.getElem?_append_right (by rw [List.length_replicate]; omega), List.length_replicate, show n + n + 1 - n = n + 1 by omega, List.getElem?_cons_succ, List.getElem?_append_right (by rw [List.length_replicate]; exact Nat.le_refl _), List.length_replicate, Nat.sub_self]
    rfl
def nones (m : Nat) : List D := List.replicate m .non
theorem nones_row (m : Nat) : ((List.range m).map fun _ => A.d D.non) = (nones m).map A.d := by
  unfold nones
  rw [List.map_const', List.length_range, List.map_replicate]
def DS.new (n m k s : Nat) : DS := ⟨.tup [.int n, .int m, .int k, .int s], true, .non, 0, 0, 0, 0, false, false, 0⟩
theorem x_init (n m k s : Nat) (h4 : 4 ≤ n) (h8 : n ≤ 8) (hm : 48 ≤ m) (hm2 : m ≤ 200) (hk : 1 ≤ k) (hs : 1 ≤ s) (hks : k + s ≤ n) (st : Store) :
    ∃ st1, m_Disks___init__ [.c st.length, .d (.int (n : Nat)), .d (.int (m : Nat)), .d (.int (k : Nat)), .d (.int (s : Nat))] (st ++ [.ins "Disks" []]) = .ok (.d .non) st1 ∧ HK (.new n m k s) n (fun _ => nones m) (fun _ => []) (fun _ => true) (plN st.length n) st1 ∧ ∃ L, st1 = st ++ L := by
  refine ⟨_, ?_, new_holds st n _ (nones m) [] true (root := (DS.new n m k s).root) rfl, _, rfl⟩
  unfold m_Disks___init__ b_Disks___init__
  have b1 := x_between n 4 8
  have b2 := x_between m 48 200
  have b3 := x_between k 1 n
  have b4 := x_between s 1 n
  have t1 : decide ((4 : Int) ≤ n) = true := decide_eq_true (by omega)
  have t2 : decide ((n : Int) ≤ 8) = true := decide_eq_true (by omega)
  have t3 : decide ((48 : Int) ≤ m) = true := decide_eq_true (by omega)
  have t4 : decide ((m : Int) ≤ 200) = true := decide_eq_true (by omega)
  have t5 : decide ((1 : Int) ≤ k) = true := decide_eq_true (by omega)
  have t6 : decide ((k : Int) ≤ n) = true := decide_eq_true (by omega)
  have t7 : decide ((1 : Int) ≤ s) = true := decide_eq_true (by omega)
  have t8 : decide ((s : Int) ≤ n) = true := decide_eq_true (by omega)
  have t9 : decide ((n : Int) < (k : Int) + s) = false := decide_eq_false (by omega)
  rw [t1, t2] at b1
  rw [t3, t4] at b2
  rw [t5, t6] at b3
  rw [t7, t8] at b4
  walk_at "ev*"
  clear b1 b2 b3 b4 t1 t2 t3 t4 t5 t6 t7 t8 t9
  rw [mLc_news (.lst ((nones m).map A.d)) n (by omega) (by
    walk_at "ev*"
    rfl) (fun v s => by
    rw [mLc_rangeC (lo := 0) (s := 1) (n := m) (st1 := s) (fun _ => .non) (by
      unfold wipeA wipeA
      walk_at "ev*") (by unfold SZ; omega) (fun _ _ _ => rfl), nones_row])]
  walk_at "ev"
  rw [mLc_news (.lst []) n (by omega) (by
    walk_at "ev*"
    rfl) (fun v s => by
    unfold wipeA wipeA
    walk_at "ev*")]
  walk_at "ev"
  rw [mLc_rangeC (lo := 0) (s := 1) (n := n) (fun _ => .bl true) (by
    walk_at "ev*"
    rfl) (by unfold SZ; omega) (fun _ _ _ => rfl)]
  walk_at "ev"
  have e1 : ∀ i, st.length + 1 + 1 + i = st.length + (2 + i) := fun i => by omega
  have e2 : st.length + (n + 1 + 1) = st.length + (2 + n) := by omega
  have e3 : ∀ i, st.length + (2 + n) + 1 + i = st.length + (2 + n + 1 + i) := fun i => by omega
  have e4 : st.length + (n + (n + 1) + 1 + 1) = st.length + (2 + n + 1 + n) := by omega
  simp only [List.length_replicate, e1, e2, e3, e4]
  rfl
end
end
end Lw
namespace Lw
open PySem PySem.Spec PyProof.Rows L2 Am
section
variable {P : Program} {w : World} {K : PySem.W.Frag} {mg : Str → Option Value} {base : Heap}
abbrev iD (n : Nat) : D := .int (n : Int)
abbrev dl (ns : List Nat) : D := .list (ns.map iD)
abbrev scrI (ns : List Int) : D := .scr (ns.map D.int)
theorem atI_scr {ns : List Int} {i : Nat} {n : Int} (h : ns[i]? = some n) : atI ((ns.map D.int).map A.d) (i : Int) = some (.d (.int n)) := atI_nat (by rw [List.getElem?_map, List.getElem?_map, h]; rfl)
theorem x_draw (ns : List Int) (k : Nat) (hk : k < 1000000) (hl : ns.length ≤ 63) : ∃ n : Nat, n < 2147483647 ∧ ∀ st, m__law_draw [.d (scrI ns), .d (iD k)] st = .ok (.d (iD n)) st := by
  unfold m__law_draw b__law_draw
  cases ns with
  | nil =>
    refine ⟨k * 5 % 7, by omega, fun st => ?_⟩
    walk_at "ev"
    rfl
  | cons n0 ns' =>
    generalize en : n0 :: ns' = L at *
    have hn : 0 < L.length := by rw [← en]; exact Nat.zero_lt_succ _
    have ht : (!(L.map D.int).isEmpty) = true := by rw [← en]; rfl
    obtain ⟨c, hc⟩ : ∃ c, L[k % L.length]? = some c := ⟨_, List.getElem?_eq_getElem (Nat.mod_lt _ hn)⟩
    have hd : 0 < (L.length : Int) ∧ (L.length : Int) < 1073741824 := by omega
    by_cases h : (1000000000000000000 : Int) ≤ c
    · obtain ⟨T, hT⟩ : ∃ T : Nat, (if (60 : Int) < (k : Int) / (L.length : Int) then (60 : Int) else (k : Int) / (L.length : Int)) = (T : Int) := by
        by_cases hh : 60 < (k : Int) / (L.length : Int)
        · exact ⟨60, if_pos hh⟩
        · exact ⟨((k : Int) / (L.length : Int)).toNat, by
            rw [if_neg hh]
            have : 0 ≤ (k : Int) / (L.length : Int) := Int.ediv_nonneg (by omega) (by omega)
            omega⟩
      have hT6 : T ≤ 60 := by
        by_cases hh : 60 < (k : Int) / (L.length : Int)
        · rw [if_pos hh] at hT; omega
        · rw [if_neg hh] at hT; omega
      refine ⟨c.toNat / 100003 ^ T % 100003, by omega, fun st => ?_⟩
      walk_at "ev"
      rw [ht]
      walk_at "ev"
      rw [show ((k : Int) % (L.length : Int)) = ((k % L.length : Nat) : Int) from rfl, atI_scr hc]
      walk_at "ev"
      rw [ifO_pos h]
      walk_at "ev"
      rw [hT]
      walk_at "ev"
      generalize ho : forA _ _ _ _ _ _ = o
      obtain ⟨σ', st', rfl, y, rfl, rfl⟩ := forR_nx ho (fun i σ s => ∃ y : Option A, σ = [some (.d (scrI L)), some (.d (iD k)), some (.d (iD (c.toNat / 100003 ^ i))), some (.d (.int ((k : Int) / (L.length : Int)))), y] ∧ s = st)
        ⟨none, by rw [Nat.pow_zero, Nat.div_one, show iD c.toNat = D.int c from congrArg D.int (by omega)], rfl⟩ (fun _ _ _ _ _ => trivial) (by
          rintro i σ s hi ⟨y, rfl, rfl⟩
          walk_at "ev"
          refine ⟨some (.d (.int (0 + (i : Int)))), ?_, trivial⟩
          rw [Nat.pow_succ, ← Nat.div_div_eq_div_mul]
          rfl)
      walk_at "ev"
      rfl
    · refine ⟨((c * 48271 + k * 69621 + 13) % 2147483647 * 16807 % 2147483629).toNat, by generalize (c * 48271 + (k : Int) * 69621 + 13) % 2147483647 * 16807 = X; omega, fun st => ?_⟩
      walk_at "ev"
      rw [ht]
      walk_at "ev"
      rw [show ((k : Int) % (L.length : Int)) = ((k % L.length : Nat) : Int) from rfl, atI_scr hc]
      walk_at "ev"
      rw [ifO_neg h]
      walk_at "ev"
      have e := Int.toNat_of_nonneg (Int.emod_nonneg ((c * 48271 + (k : Int) * 69621 + 13) % 2147483647 * 16807) (show (2147483629 : Int) ≠ 0 by decide))
      exact congrArg (fun z => Res.ok (A.d (D.int z)) st) e.symm
end
end Lw
namespace Lw
open PySem PySem.Spec PyProof.Rows L2 Am
section
variable {P : Program} {w : World} {K : PySem.W.Frag} {mg : Str → Option Value} {base : Heap}
section
variable {s : DS} {n : Nat} {f g : Nat → List D} {t : Nat → Bool} {pl : Ro → Nat} {st : Store}
theorem x_losses (h : HK s n f g t pl st) : m_Disks_losses [.c (pl .o)] st = .ok (.d (.int s.losses)) st := by
  have eo := h.o
  unfold m_Disks_losses b_Disks_losses
  walk_at "ev*"
theorem x_counts (h : HK s n f g t pl st) : m_Disks_counts [.c (pl .o)] st = .ok (.d (.tup [.int s.reads, .int s.writes, .int s.syncs])) st := by
  have eo := h.o
  unfold m_Disks_counts b_Disks_counts
  walk_at "ev*"
theorem x_is_on (h : HK s n f g t pl st) : m_Disks_is_on [.c (pl .o)] st = .ok (.d (.bl s.powered)) st := by
  have eo := h.o
  unfold m_Disks_is_on b_Disks_is_on
  walk_at "ev*"
theorem x_sizes (h : HK s n f g t pl st) : m_Disks_sizes [.c (pl .o)] st = .ok (.d s.sizes) st := by
  have eo := h.o
  unfold m_Disks_sizes b_Disks_sizes
  walk_at "ev*"
theorem x_fail_after (h : HK s n f g t pl st) (hp : s.powered = true) (k : Int) : ∃ st1, m_Disks_fail_after [.c (pl .o), .d (.int k)] st = .ok (.d .non) st1 ∧ HK { s with fuse := .int k } n f g t pl st1 ∧ Chg (F3 n pl) st st1 := by
  have eo := h.o
  refine ⟨_, ?_, h.setO { s with fuse := .int k }.root, .set foot_o _ _⟩
  unfold m_Disks_fail_after b_Disks_fail_after
  walk_at "ev*"
/-! where an exception is handled -/
theorem xh_losses (h : HK s n f g t pl st) : mh_Disks_losses [.c (pl .o)] st = .ok (.d (.int s.losses)) st := by
  have eo := h.o
  unfold mh_Disks_losses bh_Disks_losses
  walk_at "ev*"
theorem xh_counts (h : HK s n f g t pl st) : mh_Disks_counts [.c (pl .o)] st = .ok (.d (.tup [.int s.reads, .int s.writes, .int s.syncs])) st := by
  have eo := h.o
  unfold mh_Disks_counts bh_Disks_counts
  walk_at "ev*"
theorem xh_is_on (h : HK s n f g t pl st) : mh_Disks_is_on [.c (pl .o)] st = .ok (.d (.bl s.powered)) st := by
  have eo := h.o
  unfold mh_Disks_is_on bh_Disks_is_on
  walk_at "ev*"
theorem xh_operation (h : HK s n f g t pl st) (hp : s.powered = false) : mh_Disks__operation [.c (pl .o)] st = .ex ⟨"PowerOff", none⟩ st := by
  have eo := h.o
  unfold mh_Disks__operation bh_Disks__operation
  walk_at "ev*"
theorem xh_write (h : HK s n f g t pl st) (hp : s.powered = false) (a b c : A) : mh_Disks_write [.c (pl .o), a, b, c] st = .ex ⟨"PowerOff", none⟩ st := by
  have eo := h.o
  have e1 := xh_operation h hp
  unfold mh_Disks_write bh_Disks_write
  walk_at "ev*"
theorem xh_sync (h : HK s n f g t pl st) (hp : s.powered = false) : mh_Disks_sync [.c (pl .o)] st = .ex ⟨"PowerOff", none⟩ st := by
  have eo := h.o
  have e1 := xh_operation h hp
  unfold mh_Disks_sync bh_Disks_sync
  walk_at "ev*"
theorem xh_fail_after (h : HK s n f g t pl st) (hp : s.powered = false) (a : A) : mh_Disks_fail_after [.c (pl .o), a] st = .ex ⟨"PowerOff", none⟩ st := by
  have eo := h.o
  unfold mh_Disks_fail_after bh_Disks_fail_after
  walk_at "ev*"
theorem xh_lay (h : HK s n f g t pl st) {d : Nat} (hd : d < n) :
    ∃ st1 pl1, mh_Disks__lay [.c (pl .o), .d (.int d), .d (.list [])] st = .ok (.d .non) st1 ∧ HK s n f (fset g d []) t pl1 st1 ∧ Chg (F3 n pl) st st1 ∧ Sub (F3 n pl) st (F3 n pl1) ∧ pl1 .o = pl .o := by
  have eo := h.o
  have eW := h.W
  have ew := h.w hd
  have ed2 := atI_range n (fun d => A.c (pl (.w d))) hd
  obtain ⟨ok, okst, hit⟩ : ∃ ok : Store → Prop, ok st ∧ iZip0M (mCons (mBin gIx (mFld isF "_waiting" (mVar 0)) (mVar 1)) (mCons (mVar 2) mNil)) [some (.c (pl .o)), some (.d (.int d)), some (.d (.list [])), none, none, none] st = .ok ⟨[], ok⟩ st := by
    have hv : viewS st (.c (pl (.w d))) = some ((g d).map A.d) := by rw [viewS_c, ew]
    have e1 : (mCons (mBin gIx (mFld isF "_waiting" (mVar 0)) (mVar 1)) (mCons (mVar 2) mNil)) [some (.c (pl .o)), some (.d (.int d)), some (.d (.list [])), none, none, none] st = .ok [.c (pl (.w d)), .d (.list [])] st := by
      walk_at "ev*"
    refine ⟨fun s => viewS s (.c (pl (.w d))) = some ((g d).map A.d) ∧ viewS s (.d (.list [])) = some [], ⟨hv, rfl⟩, ?_⟩
    unfold iZip0M
    rw [e1, bind_ok]
    have hv2 : viewS st (.d (.list [])) = some [] := rfl
    simp only [hv, hv2]
    exact if_pos (.inr trivial)
  have hfor : ∀ (gg : MG) (b : MS) (σ : Slots), forA gg b ok [] σ st = .nx σ st := fun gg b σ => by rw [forA, needO_pos okst]
  have lW : d < ((List.range n).map fun d => A.c (pl (.w d))).length := by rw [List.length_map, List.length_range]; exact hd
  have es := fun σ => sub3_l (base_get eW [.lst []]) lW (.c st.length) σ
  have eo2 := base_get eo [.lst []]
  refine ⟨_, _, ?_, H3.neww h hd [], .appset foot_W _ _ _, fun i hi => foot_upd i hi, plUpd_ne (show Ro.o ≠ Ro.w d from fun z => nomatch z) _⟩
  unfold mh_Disks__lay bh_Disks__lay
  walk_at "ev*"
theorem xh_power (h : HK s n f g t pl st) (hn : n ≤ 1000) (hp : s.powered = false) :
    ∃ st1 pl1, mh_Disks_power [.c (pl .o), .d (.list [])] st = .ok (.d .non) st1 ∧ HK { s with powered := true, fuse := .non } n f (fun _ => []) t pl1 st1 ∧ Chg (F3 n pl) st st1 ∧ Am.Sub (F3 n pl) st (F3 n pl1) ∧ pl1 .o = pl .o := by
  have eo := h.o
  have eM := h.M
  unfold mh_Disks_power bh_Disks_power
  walk_at "ev*"
  generalize ho : forA _ _ _ _ _ _ = o
  obtain ⟨σ2, st2, rfl, y1, y2, pl2, rfl, h2, c2, s2, o2⟩ := forR_nx ho (fun i σ s2 => ∃ y1 y2 pl2, σ = [some (.c (pl .o)), some (.d (.list [])), y1, y2] ∧ HK s n f (upTo i (fun _ => []) g) t pl2 s2 ∧ Chg (F3 n pl) st s2 ∧ Am.Sub (F3 n pl) st (F3 n pl2) ∧ pl2 .o = pl .o)
    ⟨_, _, _, rfl, h.rows (fun _ _ => rfl) (fun _ _ => rfl) (fun _ _ => rfl), .refl _ _, .refl _ _, rfl⟩ (fun _ _ _ _ _ => trivial) (fun i σ s2 hi ⟨y1, y2, pl2, e, h2, c2, b2, o2⟩ => by
      subst e
      have eo2 := HK.o h2
      rw [o2] at eo2
      rw [show (0 : Int) + (i : Int) = (i : Int) by omega]
      obtain ⟨s3, pl3, e3, h3, c3, b3, o3⟩ := xh_lay h2 hi
      rw [o2] at e3
      have q : HK s n f (upTo (i + 1) (fun _ => []) g) t pl3 s3 ∧ Chg (F3 n pl) st s3 ∧ Am.Sub (F3 n pl) st (F3 n pl3) ∧ pl3 .o = pl .o :=
        ⟨H3.rows h3 (fun _ _ => rfl) (fun e _ => upTo_set i (fun _ => []) g e) (fun _ _ => rfl), c2.trans b2 c3, b2.trans c2.1 b3, o3.trans o2⟩
      have ht : decide ((i : Int) < ((0 : Nat) : Int)) = false := decide_eq_false (by omega)
      have el : gLen [.d (.list [])] s2 = .ok (.d (.int ((0 : Nat) : Int))) s2 := rfl
      revert q
      clear ho h2 c2 b2 o2 h3 c3 b3 o3 eo eM h
      walk_at "ev*"
      intro q
      exact ⟨_, _, pl3, rfl, q⟩)
  have eo2 := HK.o h2
  rw [o2] at eo2
  have lo2 := HK.lo h2
  rw [o2] at lo2
  have h3 := H3.setO h2 { s with powered := true, fuse := .non }.root
  rw [o2] at h3
  refine ⟨_, pl2, ?_, H3.rows h3 (fun d hd => rfl) (fun d hd => upTo_lt hd _ _) (fun _ _ => rfl), c2.trans s2 (.set ⟨.o, trivial, o2⟩ _ _), s2, o2⟩
  clear ho h2 h3 c2 s2 eo eM h
  walk_at "ev*"
end
end
end Lw
namespace Lw
open PySem PySem.Spec PyProof.Rows L2 Am
section
variable {P : Program} {w : World} {K : PySem.W.Frag} {mg : Str → Option Value} {base : Heap}
theorem asO_ex {isE : Str → Str → Option Bool} {y : Str} {j : Nat} {b : MS} {s : Exn → MS} {σ σ1 : Slots} {S S1 : Store} {x : Exn} (h : b σ S = .ex x σ1 S1) (he : isE x.cls y = some true) (hj : j < σ1.length) : mTryAs isE y j b s σ S = unAs j (s x (σ1.set j none) S1) := by
  unfold mTryAs; simp only [h, he]; rw [eq_true hj, needO_true]
theorem asO_nx {isE : Str → Str → Option Bool} {y : Str} {j : Nat} {b : MS} {s : Exn → MS} {σ σ1 : Slots} {S S1 : Store} (h : b σ S = .nx σ1 S1) : mTryAs isE y j b s σ S = .nx σ1 S1 := by
  unfold mTryAs; simp only [h]
theorem isE_po : isE "PowerOff" "PowerOff" = some true := by decide +kernel
theorem isE_ia : isE "InvalidArgument" "InvalidArgument" = some true := by decide +kernel
theorem isK_pr : isK "PowerOff" "RotError" = some true := by decide +kernel
theorem isK_ir : isK "InvalidArgument" "RotError" = some true := by decide +kernel
theorem isK_iv : isK "InvalidArgument" "ValueError" = some true := by decide +kernel
theorem isX_ok {x y : Str} (σ : Slots) (S : Store) (h : isK x y = some true) : mIsX isK ⟨x, none⟩ y σ S = .ok (.d (.bl true)) S := by
  unfold mIsX; simp only [h]
section
variable {s : DS} {n : Nat} {f g : Nat → List D} {t : Nat → Bool} {pl : Ro → Nat} {st : Store}
theorem x_darkH (h : HK s n f g t pl st) (hp : s.powered = false) : mh__law_dark [.c (pl .o)] st = .ok (.d (.bl true)) st := by
  have eo := h.o
  have e1 := xh_write h hp
  have e2 := xh_sync h hp
  have e3 := xh_fail_after h hp
  have e4 := xh_is_on h
  rw [hp] at e4
  unfold mh__law_dark bh__law_dark
  have u : ∀ j σ S, unAs j (.nx σ S) = .nx (σ.set j none) S := fun _ _ _ => rfl
  have lc : ∀ v σ, mLc false [4] (pt1 4) (iRng1M (mCons (mC (.int 32)) mNil)) mYes (mC (.int 0)) [some (.c (pl .o)), v, σ, none, none] st = .ok (.d (.list ((List.range 32).map fun _ => .int 0))) st := fun v σ => by
    rw [mLc_range (lo := 0) (s := 1) (n := 32) (st1 := st) (fun _ => .int 0) (by
      walk_at "ev*"
      rfl) (by unfold SZ; omega) (fun _ _ _ => rfl)]
  walk_at "ev*"
  generalize ho : forA _ _ _ _ _ _ = o
  obtain ⟨σ2, st2, rfl, y, rfl, rfl⟩ := forR_nx ho (fun i σ s2 => ∃ y, σ = [some (.c (pl .o)), some (.d (.int (i : Nat))), y, none, none] ∧ s2 = st)
    ⟨_, rfl, rfl⟩ (fun _ _ _ _ _ => trivial) (fun i σ s2 hi ⟨y, e, e0⟩ => by
      subst e e0
      have tr : ∀ S, mIsX isK ⟨"PowerOff", none⟩ "RotError" [some (.c (pl .o)), some (.d (.int (i : Nat))), some (.d (.int (0 + (i : Int)))), none, none] S = .ok (.d (.bl true)) S := fun S => isX_ok _ S isK_pr
      have hb : (mIf (mTst (mBin (gEq false) (mVar 2) (mC (.int 0))))
          (mDo (mMeth "Disks" "write" mh_Disks_write (mVar 0) (mCons (mC (.int 0)) (mCons (mC (.int 0)) (mCons (mLc false [4] (pt1 4) (iRng1M (mCons (mC (.int 32)) mNil)) mYes (mC (.int 0))) mNil)))))
          (mIf (mTst (mBin (gEq false) (mVar 2) (mC (.int 1))))
          (mDo (mMeth "Disks" "sync" mh_Disks_sync (mVar 0) mNil))
          (mDo (mMeth "Disks" "fail_after" mh_Disks_fail_after (mVar 0) (mCons (mC (.int 5)) mNil))))) [some (.c (pl .o)), some (.d (.int (i : Nat))), some (.d (.int (0 + (i : Int)))), none, none] s2 = .ex ⟨"PowerOff", none⟩ [some (.c (pl .o)), some (.d (.int (i : Nat))), some (.d (.int (0 + (i : Int)))), none, none] s2 := by
        clear h tr
        rcases (by omega : i = 0 ∨ i = 1 ∨ i = 2) with z | z | z
        · have d0 : decide ((0 : Int) + (i : Int) = 0) = true := decide_eq_true (by omega)
          clear z hi
          walk_at "ev*"
        · have d0 : decide ((0 : Int) + (i : Int) = 0) = false := decide_eq_false (by omega)
          have d1 : decide ((0 : Int) + (i : Int) = 1) = true := decide_eq_true (by omega)
          clear z hi
          walk_at "ev*"
        · have d0 : decide ((0 : Int) + (i : Int) = 0) = false := decide_eq_false (by omega)
          have d1 : decide ((0 : Int) + (i : Int) = 1) = false := decide_eq_false (by omega)
          clear z hi
          walk_at "ev*"
      have ht := fun s => asO_ex (isE := isE) (y := "PowerOff") (j := 3) (s := s) hb isE_po (by show 3 < 5; decide)
      clear h hb e1 e2 e3 e4 lc eo
      walk_at "ev*"
      exact ⟨_, rfl, trivial⟩)
  have d3 : decide (((3 : Int).toNat : Int) = 3) = true := by decide
  clear h ho
  walk_at "ev*"
end
end
end Lw
namespace Lw
open PySem PySem.Spec PyProof.Rows L2 Am
section
variable {P : Program} {w : World} {K : PySem.W.Frag} {mg : Str → Option Value} {base : Heap}
theorem isi_d {x : D} {t s : String} {b : Bool} (h : tyD x = some s) (k : kitB s t = some b) (st : Store) : gIsi t (.d x) st = .ok (.d (.bl b)) st := by
  unfold gIsi
  rw [show tyA st (.d x) = some s from h, Option.bind_some, k]
theorem btw_bl (b : Bool) (l h : D) (st : Store) : m_is_between [.d (.bl b), .d l, .d h] st = .ok (.d (.bl false)) st := by
  have i1 := fun st => isi_d (x := .bl b) (t := "int") (b := true) rfl (by decide +kernel) st
  have i2 := fun st => isi_d (x := .bl b) (t := "bool") (b := true) rfl (by decide +kernel) st
  unfold m_is_between b_is_between
  walk_at "ev*"
theorem btw_str (z : Str) (l h : D) (st : Store) : m_is_between [.d (.str z), .d l, .d h] st = .ok (.d (.bl false)) st := by
  have i1 := fun st => isi_d (x := .str z) (t := "int") (b := false) rfl (by decide +kernel) st
  unfold m_is_between b_is_between
  walk_at "ev*"
theorem btw_non (l h : D) (st : Store) : m_is_between [.d .non, .d l, .d h] st = .ok (.d (.bl false)) st := by
  have i1 := fun st => isi_d (x := .non) (t := "int") (b := false) rfl (by decide +kernel) st
  unfold m_is_between b_is_between
  walk_at "ev*"
/-- sizes that are wrong -/
def Bad (a b c d : D) : Prop := ∀ st : Store, m_Disks___init__ [.c st.length, .d a, .d b, .d c, .d d] (st ++ [.ins "Disks" []]) = .ex ⟨"InvalidArgument", none⟩ (st ++ [.ins "Disks" []])
theorem bad_1 {a : D} (b c d : D) (ha : ∀ st, m_is_between [.d a, .d (.int 4), .d (.int 8)] st = .ok (.d (.bl false)) st) : Bad a b c d := fun st => by
  unfold m_Disks___init__ b_Disks___init__
  walk_at "ev*"
theorem bad_2 {a b : D} (c d : D) (ha : ∀ st, m_is_between [.d a, .d (.int 4), .d (.int 8)] st = .ok (.d (.bl true)) st) (hb : ∀ st, m_is_between [.d b, .d (.int 48), .d (.int 200)] st = .ok (.d (.bl false)) st) : Bad a b c d := fun st => by
  unfold m_Disks___init__ b_Disks___init__
  walk_at "ev*"
theorem bad_3 {a b c : D} (d : D) (ha : ∀ st, m_is_between [.d a, .d (.int 4), .d (.int 8)] st = .ok (.d (.bl true)) st) (hb : ∀ st, m_is_between [.d b, .d (.int 48), .d (.int 200)] st = .ok (.d (.bl true)) st) (hc : ∀ st, m_is_between [.d c, .d (.int 1), .d a] st = .ok (.d (.bl false)) st) : Bad a b c d := fun st => by
  unfold m_Disks___init__ b_Disks___init__
  walk_at "ev*"
theorem bad_4 {a b c d : D} (ha : ∀ st, m_is_between [.d a, .d (.int 4), .d (.int 8)] st = .ok (.d (.bl true)) st) (hb : ∀ st, m_is_between [.d b, .d (.int 48), .d (.int 200)] st = .ok (.d (.bl true)) st) (hc : ∀ st, m_is_between [.d c, .d (.int 1), .d a] st = .ok (.d (.bl true)) st) (hd : ∀ st, m_is_between [.d d, .d (.int 1), .d a] st = .ok (.d (.bl false)) st) : Bad a b c d := fun st => by
  unfold m_Disks___init__ b_Disks___init__
  walk_at "ev*"
theorem bad_5 {n k s : Int} {b : D} (ha : ∀ st, m_is_between [.d (.int n), .d (.int 4), .d (.int 8)] st = .ok (.d (.bl true)) st) (hb : ∀ st, m_is_between [.d b, .d (.int 48), .d (.int 200)] st = .ok (.d (.bl true)) st) (hc : ∀ st, m_is_between [.d (.int k), .d (.int 1), .d (.int n)] st = .ok (.d (.bl true)) st) (hd : ∀ st, m_is_between [.d (.int s), .d (.int 1), .d (.int n)] st = .ok (.d (.bl true)) st) (hs : n < k + s) : Bad (.int n) b (.int k) (.int s) := fun st => by
  have t9 : decide (n < k + s) = true := decide_eq_true hs
  unfold m_Disks___init__ b_Disks___init__
  walk_at "ev*"
/-- the sizes that the law holds wrong -/
def wrongs (m : Nat) : List D := [.tup [.int 3, .int 60, .int 1, .int 1], .tup [.int (9 + (m : Int) % 9), .int 60, .int 1, .int 1], .tup [.int 6, .int 47, .int 1, .int 1], .tup [.int 6, .int (201 + (m : Int)), .int 1, .int 1], .tup [.int 6, .int 60, .int 0, .int 1],
  .tup [.int 6, .int 60, .int 1, .int 0], .tup [.int 6, .int 60, .int 4, .int 3], .tup [.int 4, .int 60, .int 2, .int 3], .tup [.bl true, .int 60, .int 1, .int 1], .tup [.int 6, .str "60", .int 1, .int 1], .tup [.int 6, .int 60, .non, .int 1],
  .tup [.int 6, .int 60, .bl true, .int 1], .tup [.int 6, .int 60, .int 1, .bl true], .tup [.int 6, .int 60, .int (-1), .int 1]]
theorem btw_ok {i l h : Int} (e : l ≤ i ∧ i ≤ h) (st : Store) : m_is_between [.d (.int i), .d (.int l), .d (.int h)] st = .ok (.d (.bl true)) st := by
  rw [x_between, decide_eq_true e.1, decide_eq_true e.2]; rfl
theorem btw_no {i l h : Int} (e : i < l ∨ h < i) (st : Store) : m_is_between [.d (.int i), .d (.int l), .d (.int h)] st = .ok (.d (.bl false)) st := by
  rw [x_between]
  have : (decide (l ≤ i) && decide (i ≤ h)) = false := by
    rcases e with e | e
    · rw [decide_eq_false (by omega)]; rfl
    · rw [decide_eq_false (p := i ≤ h) (by omega), Bool.and_false]
  rw [this]
theorem wrongs_bad (m : Nat) : ∀ x ∈ wrongs m, ∃ a b c d, x = .tup [a, b, c, d] ∧ Bad a b c d := by
  have a6 := btw_ok (i := 6) (l := 4) (h := 8) (by decide)
  have a60 := btw_ok (i := 60) (l := 48) (h := 200) (by decide)
  have a1 := btw_ok (i := 1) (l := 1) (h := 6) (by decide)
  intro x hx
  simp only [wrongs, List.mem_cons, List.not_mem_nil, or_false] at hx
  rcases hx with z | z | z | z | z | z | z | z | z | z | z | z | z | z
  · exact ⟨_, _, _, _, z, bad_1 _ _ _ (btw_no (by decide))⟩
  · exact ⟨_, _, _, _, z, bad_1 _ _ _ (btw_no (by omega))⟩
  · exact ⟨_, _, _, _, z, bad_2 _ _ a6 (btw_no (by decide))⟩
  · exact ⟨_, _, _, _, z, bad_2 _ _ a6 (btw_no (by omega))⟩
  · exact ⟨_, _, _, _, z, bad_3 _ a6 a60 (btw_no (by decide))⟩
  · exact ⟨_, _, _, _, z, bad_4 a6 a60 a1 (btw_no (by decide))⟩
  · exact ⟨_, _, _, _, z, bad_5 a6 a60 (btw_ok (by decide)) (btw_ok (by decide)) (by decide)⟩
  · exact ⟨_, _, _, _, z, bad_5 (btw_ok (by decide)) a60 (btw_ok (by decide)) (btw_ok (by decide)) (by decide)⟩
  · exact ⟨_, _, _, _, z, bad_1 _ _ _ (btw_bl _ _ _)⟩
  · exact ⟨_, _, _, _, z, bad_2 _ _ a6 (btw_str _ _ _)⟩
  · exact ⟨_, _, _, _, z, bad_3 _ a6 a60 (btw_non _ _)⟩
  · exact ⟨_, _, _, _, z, bad_3 _ a6 a60 (btw_bl _ _ _)⟩
  · exact ⟨_, _, _, _, z, bad_4 a6 a60 a1 (btw_bl _ _ _)⟩
  · exact ⟨_, _, _, _, z, bad_3 _ a6 a60 (btw_no (by decide))⟩
/-- the sizes that the law holds right -/
def rights : List D := [.tup [.int 4, .int 48, .int 1, .int 1], .tup [.int 8, .int 200, .int 7, .int 1], .tup [.int 8, .int 60, .int 4, .int 4], .tup [.int 5, .int 100, .int 1, .int 4]]
def Right (x : D) : Prop := ∃ n m k s : Nat, x = .tup [.int n, .int m, .int k, .int s] ∧ 4 ≤ n ∧ n ≤ 8 ∧ 48 ≤ m ∧ m ≤ 200 ∧ 1 ≤ k ∧ 1 ≤ s ∧ k + s ≤ n
theorem rights_ok : ∀ x ∈ rights, Right x := by
  intro x hx
  simp only [rights, List.mem_cons, List.not_mem_nil, or_false] at hx
  rcases hx with z | z | z | z
  · exact ⟨4, 48, 1, 1, z, by decide⟩
  · exact ⟨8, 200, 7, 1, z, by decide⟩
  · exact ⟨8, 60, 4, 4, z, by decide⟩
  · exact ⟨5, 100, 1, 4, z, by decide⟩
end
end Lw
namespace Lw
open PySem PySem.Spec PyProof.Rows L2 Am
section
variable {P : Program} {w : World} {K : PySem.W.Frag} {mg : Str → Option Value} {base : Heap}
theorem eq_3 (a b c : Int) (neg : Bool) (st : Store) : gEq neg (.d (.tup [.int a, .int b, .int c])) (.d (.tup [.int a, .int b, .int c])) st = .ok (.d (.bl (!neg))) st :=
  gEq_same st (n := 1) (x := .tup _) (show ∀ d ∈ [D.int a, .int b, .int c], Pl 0 d from fun d hd => by
    simp only [List.mem_cons, List.not_mem_nil, or_false] at hd
    rcases hd with z | z | z <;> subst z <;> exact Pl.int 0 _) neg rfl
theorem eq_4 (a b c e : Int) (neg : Bool) (st : Store) : gEq neg (.d (.tup [.int a, .int b, .int c, .int e])) (.d (.tup [.int a, .int b, .int c, .int e])) st = .ok (.d (.bl (!neg))) st :=
  gEq_same st (n := 1) (x := .tup _) (show ∀ d ∈ [D.int a, .int b, .int c, .int e], Pl 0 d from fun d hd => by
    simp only [List.mem_cons, List.not_mem_nil, or_false] at hd
    rcases hd with z | z | z | z <;> subst z <;> exact Pl.int 0 _) neg rfl
section
theorem x_wrong (m : Nat) (hm : m < 100) (st : Store) : ∃ L, m__law_wrong [.d (.int (m : Nat))] st = .ok (.d (.bl true)) (st ++ L) := by
  unfold m__law_wrong b__law_wrong
  walk_at "ev*"
  have u : ∀ j σ S, unAs j (.nx σ S) = .nx (σ.set j none) S := fun _ _ _ => rfl
  have mr : ∀ n x s, madeR n (.ex x s) = .ex x s := fun _ _ _ => rfl
  have k1 := fun σ S => isX_ok σ S isK_ir
  have k2 := fun σ S => isX_ok σ S isK_iv
  generalize ho : forA _ _ _ _ _ _ = o
  change forA _ _ _ ((wrongs m).map A.d) _ _ = o at ho
  obtain ⟨σ1, st1, rfl, y1, y2, y3, y4, y5, y7, L1, rfl, rfl⟩ := forL_nx ho (fun i σ s => ∃ y1 y2 y3 y4 y5 y7 L, σ = [some (.d (.int (m : Nat))), y1, y2, y3, y4, y5, none, y7] ∧ s = st ++ L)
    ⟨_, _, _, _, _, _, [], rfl, (List.append_nil st).symm⟩ (fun _ _ _ _ _ => trivial) (fun i x σ s2 hx ⟨y1, y2, y3, y4, y5, y7, L, e, e0⟩ => by
      subst e
      rw [List.getElem?_map] at hx
      obtain ⟨x0, hx0, rfl⟩ : ∃ x0, (wrongs m)[i]? = some x0 ∧ A.d x0 = x := by
        cases h : (wrongs m)[i]? with
        | none => rw [h] at hx; cases hx
        | some x0 => rw [h] at hx; exact ⟨x0, rfl, Option.some.inj hx⟩
      obtain ⟨a, b, c, d, rfl, bad⟩ := wrongs_bad m x0 (List.mem_of_getElem? hx0)
      have e1 := bad s2
      have hb : (mSeq (mDo (mMake "Disks" m_Disks___init__ (mCons (mVar 2) (mCons (mVar 3) (mCons (mVar 4) (mCons (mVar 5) mNil)))))) (mRet (mC (.bl false)))) [some (.d (.int (m : Nat))), y1, some (.d a), some (.d b), some (.d c), some (.d d), none, y7] s2
          = .ex ⟨"InvalidArgument", none⟩ [some (.d (.int (m : Nat))), y1, some (.d a), some (.d b), some (.d c), some (.d d), none, y7] (s2 ++ [.ins "Disks" []]) := by
        clear e0 hx0 hx ho
        walk_at "ev*"
      have ht := fun s => asO_ex (isE := isE) (y := "InvalidArgument") (j := 6) (s := s) hb isE_ia (by show 6 < 8; decide)
      have q : ∃ L', s2 ++ [Cell.ins "Disks" []] = st ++ L' := ⟨L ++ [.ins "Disks" []], by rw [e0, List.append_assoc]⟩
      clear hb e1 bad ho hx hx0 e0
      revert q
      walk_at "ev*"
      intro ⟨L', q⟩
      exact ⟨_, _, _, _, _, _, L', rfl, q⟩)
  clear ho u mr k1 k2
  walk_at "ev*"
  generalize ho : forA _ _ _ _ _ _ = o
  change forA _ _ _ (rights.map A.d) _ _ = o at ho
  obtain ⟨σ2, st2, rfl, z2, z7, L2, rfl, rfl⟩ := forL_nx ho (fun i σ s => ∃ z2 z7 L, σ = [some (.d (.int (m : Nat))), y1, z2, y3, y4, y5, none, z7] ∧ s = st ++ L)
    ⟨_, _, L1, rfl, rfl⟩ (fun _ _ _ _ _ => trivial) (fun i x σ s2 hx ⟨z2, z7, L, e, e0⟩ => by
      subst e
      rw [List.getElem?_map] at hx
      obtain ⟨x0, hx0, rfl⟩ : ∃ x0, rights[i]? = some x0 ∧ A.d x0 = x := by
        cases h : rights[i]? with
        | none => rw [h] at hx; cases hx
        | some x0 => rw [h] at hx; exact ⟨x0, rfl, Option.some.inj hx⟩
      obtain ⟨n, M, k, s, rfl, h1, h2, h3, h4, h5, h6, h7⟩ := rights_ok x0 (List.mem_of_getElem? hx0)
      obtain ⟨s3, e1, hk, L3, e3⟩ := x_init n M k s h1 h2 h3 h4 h5 h6 h7 s2
      have f1 : m_Disks_sizes [.c (plN s2.length n .o)] s3 = .ok (.d (.tup [.int n, .int M, .int k, .int s])) s3 := x_sizes hk
      have f2 : m_Disks_counts [.c (plN s2.length n .o)] s3 = .ok (.d (.tup [.int 0, .int 0, .int 0])) s3 := x_counts hk
      have eo := hk.o
      have po : plN s2.length n .o = s2.length := rfl
      rw [po] at f1 f2 eo
      have q : ∃ L', s3 = st ++ L' := ⟨L ++ L3, by rw [e3, e0, List.append_assoc]⟩
      have c1 := fun st => eq_4 n M k s true st
      have c2 := fun st => eq_3 0 0 0 true st
      clear ho hx hx0 e0 e3 hk h1 h2 h3 h4 h5 h6 h7
      revert q
      walk_at "ev*"
      intro ⟨L', q⟩
      exact ⟨_, _, L', rfl, q⟩)
  clear ho
  walk_at "ev*"
  exact ⟨L2, rfl⟩
end
end
end Lw
namespace Lw
open PySem PySem.Spec PyProof.Rows L2 Am
section
variable {P : Program} {w : World} {K : PySem.W.Frag} {mg : Str → Option Value} {base : Heap}
/-- the law's counts, as its list keeps them -/
abbrev cntC (a b c : Int) : Cell := .lst [.d (.int a), .d (.int b), .d (.int c)]
structure LS (k : Nat) (s : DS) (f : Nat → List D) (ws : Nat → List (Nat × D)) (t : Nat → Bool) (pl : Ro → Nat) (q : Nat) (st : Store) : Prop where
  hk : HK s 4 f (fun d => (ws d).map wD) t pl st
  len : ∀ d, d < 4 → (f d).length = 48
  row : ∀ d, d < 4 → ∀ x ∈ f d, Sec? x
  w1 : ∀ d, d < 4 → ∀ p ∈ ws d, p.1 < 9 ∧ Sec p.2
  w2 : ∀ d, d < 4 → (ws d).length ≤ k
  qc : st[q]? = some (cntC s.reads s.writes s.syncs)
  nq : ¬ F3 4 pl q
  on : s.powered = true
  los : s.losses = 0
section
variable {k : Nat} {s : DS} {f : Nat → List D} {ws : Nat → List (Nat × D)} {t : Nat → Bool} {pl : Ro → Nat} {q : Nat} {st : Store}
theorem hk_setq {s : DS} {g : Nat → List D} (h : HK s 4 f g t pl st) (nq : ¬ F3 4 pl q) (c : Cell) : HK s 4 f g t pl (st.set q c) :=
  Holds.chg h (.set (F := fun i => i = q) rfl _ _) fun i a b => nq (b ▸ a)
theorem set_at {c d : Cell} (h : st[q]? = some c) : (st.set q d)[q]? = some d := List.getElem?_set_self (RelS.lt h)
theorem x_one_ask (w : LS k s f ws t pl q st) {N : Nat} (hN : N % 5 = 1) :
    ∃ st1 s1, m__law_one [.c (pl .o), .c q, .d (.int (N : Nat))] st = .ok (.d (.int 0)) st1 ∧ LS k s1 f ws t pl q st1 ∧ s1.fuse = s.fuse := by
  have h := w.hk
  have hd : N / 5 % 4 < 4 := Nat.mod_lt _ (by decide)
  have e1 : (N : Int) / 5 % 4 = ((N / 5 % 4 : Nat) : Int) := rfl
  have hs : N / 20 % 9 < 9 := Nat.mod_lt _ (by decide)
  have e2 : (N : Int) / 20 % 9 = ((N / 20 % 9 : Nat) : Int) := rfl
  generalize N / 5 % 4 = d at hd e1
  generalize N / 20 % 9 = sec at hs e2
  have c0 : decide ((N : Int) % 5 = 0) = false := decide_eq_false (by omega)
  have c1 : decide ((N : Int) % 5 = 1) = true := decide_eq_true (by omega)
  have i1 := x_is_there h hd
  have hq := w.qc
  unfold m__law_one b__law_one
  cases ht : t d with
  | true =>
    rw [ht] at i1
    have h1 := hk_setq h w.nq (cntC (s.reads + 1) s.writes s.syncs)
    obtain ⟨st2, e3, h2, ch⟩ := x_ask h1 hd (sec := sec) (ws := ws d) rfl (fun p hp => (w.w1 d hd p hp).2) (fun x hx => w.row d hd x (List.mem_of_getElem? hx)) (by rw [w.len d hd]; omega)
    rw [ht, if_pos rfl] at h2
    refine ⟨_, { s with reads := s.reads + 1 }, ?_, ⟨h2, w.len, w.row, w.w1, w.w2, ?_, w.nq, w.on, w.los⟩, rfl⟩
    · have eo := h.o
      have eo1 := h1.o
      have n3 : ixN 3 0 = some 0 := rfl
      clear h h1 h2 ch w
      walk_at "ev*"
    · rw [ch.2 q (by rw [List.length_set]; exact RelS.lt hq) w.nq, set_at hq]
  | false =>
    rw [ht] at i1
    have h1 := hk_setq h w.nq (cntC (s.reads + 0) s.writes s.syncs)
    obtain ⟨st2, e3, h2, ch⟩ := x_ask h1 hd (sec := sec) (ws := ws d) rfl (fun p hp => (w.w1 d hd p hp).2) (fun x hx => w.row d hd x (List.mem_of_getElem? hx)) (by rw [w.len d hd]; omega)
    rw [ht, if_neg Bool.false_ne_true] at h2
    refine ⟨_, s, ?_, ⟨h2, w.len, w.row, w.w1, w.w2, ?_, w.nq, w.on, w.los⟩, rfl⟩
    · have eo := h.o
      have eo1 := h1.o
      have n3 : ixN 3 0 = some 0 := rfl
      clear h h1 h2 ch w
      walk_at "ev*"
    · rw [ch.2 q (by rw [List.length_set]; exact RelS.lt hq) w.nq, set_at hq, Int.add_zero]
theorem op_eq (s : DS) : s.op = { s with fuse := s.op.fuse } := by
  unfold DS.op
  split <;> rfl
/-- the sector that the law writes -/
def secN (m : Nat) : List D := (List.range 32).map fun _ => D.int (m : Nat)
theorem sec_secN {m : Nat} (h : m < 256) : Sec (.list (secN m)) := ⟨_, rfl, by unfold secN; rw [List.length_map, List.length_range]; decide, (List.range 32).map fun _ => m, by unfold secN; rw [List.map_map]; rfl, by rw [List.length_map, List.length_range], fun b hb => by
  obtain ⟨_, _, rfl⟩ := List.mem_map.mp hb
  exact h⟩
theorem x_one_sync (w : LS k s f ws t pl q st) (go : Goes s) (hk : k ≤ 1000) {N : Nat} (hN : N % 5 = 0) :
    ∃ st1 f1 pl1, m__law_one [.c (pl .o), .c q, .d (.int (N : Nat))] st = .ok (.d (.int 1)) st1 ∧ LS (k + 1) { s with fuse := s.op.fuse, syncs := s.syncs + 1 } f1 (fun _ => []) t pl1 q st1 ∧ pl1 .o = pl .o := by
  have h := w.hk
  have c0 : decide ((N : Int) % 5 = 0) = true := decide_eq_true (by omega)
  have hq := w.qc
  obtain ⟨st1, pl1, e1, h1, ch, sb, o1⟩ := x_sync h go (by decide) (ws := ws) (fun _ _ => rfl) (fun d hd p hp => by have := (w.w1 d hd p hp).1; rw [w.len d hd]; omega) (fun d hd => by have := w.w2 d hd; omega)
  have nq1 : ¬ F3 4 pl1 q := fun z => (sb q z).elim w.nq fun z => Nat.not_lt.mpr z (RelS.lt hq)
  have hq1 : st1[q]? = some (cntC s.reads s.writes s.syncs) := (ch.2 q (RelS.lt hq) w.nq).trans hq
  rw [op_eq s] at h1
  have h2 := hk_setq h1 nq1 (cntC s.reads s.writes (s.syncs + 1))
  refine ⟨_, _, pl1, ?_, ⟨h2, fun d hd => by rw [layL_len]; exact w.len d hd, fun d hd => layL_all _ _ _ (w.row d hd) fun p hp => .inr (w.w1 d hd p hp).2, fun d hd p hp => (nomatch hp), fun _ _ => Nat.zero_le _, set_at hq1, nq1, w.on, w.los⟩, o1⟩
  have eo := h.o
  have eo1 := h1.o
  rw [o1] at eo1
  have n3 : ixN 3 2 = some 2 := rfl
  unfold m__law_one b__law_one
  clear h h1 h2 ch sb w nq1
  walk_at "ev*"
theorem x_one_write (w : LS k s f ws t pl q st) (go : Goes s) (hk : k ≤ 1000) {N : Nat} (hN : N % 5 ≠ 0 ∧ N % 5 ≠ 1) :
    ∃ st1 s1 ws1, m__law_one [.c (pl .o), .c q, .d (.int (N : Nat))] st = .ok (.d (.int 1)) st1 ∧ LS (k + 1) s1 f ws1 t pl q st1 ∧ s1.fuse = s.op.fuse := by
  have h := w.hk
  have hd : N / 5 % 4 < 4 := Nat.mod_lt _ (by decide)
  have e1 : (N : Int) / 5 % 4 = ((N / 5 % 4 : Nat) : Int) := rfl
  have hs : N / 20 % 9 < 9 := Nat.mod_lt _ (by decide)
  have e2 : (N : Int) / 20 % 9 = ((N / 20 % 9 : Nat) : Int) := rfl
  have c0 : decide ((N : Int) % 5 = 0) = false := decide_eq_false (by omega)
  have c1 : decide ((N : Int) % 5 = 1) = false := decide_eq_false (by omega)
  have lc : ∀ d, mLc false [4] (pt1 4) (iRng1M (mCons (mC (.int 32)) mNil)) mYes (mBin gMod (mVar 2) (mC (.int 256))) [some (.c (pl .o)), some (.c q), some (.d (.int (N : Nat))), d, none] st = .ok (.d (.list (secN (N % 256)))) st := fun d => by
    rw [mLc_range (lo := 0) (s := 1) (n := 32) (st1 := st) (fun _ => .int (N % 256 : Nat)) (by
      walk_at "ev*"
      rfl) (by unfold SZ; omega) (fun i hi ac => by
      unfold wipeA wipeA
      walk_at "ev*"
      rfl)]
    rfl
  have h256 : N % 256 < 256 := Nat.mod_lt _ (by decide)
  generalize N / 5 % 4 = d at hd e1
  generalize N / 20 % 9 = sec at hs e2
  generalize N % 256 = b at lc h256
  have hq := w.qc
  have lw := w.w2 d hd
  obtain ⟨st1, e3, h1, ch⟩ := x_write h go hd (a := .d (.list (secN b))) (data := secN b) rfl (fun _ z => nomatch z) (by unfold secN; rw [List.length_map, List.length_range]; decide) (by show ((ws d).map wD).length < 1000000; rw [List.length_map]; omega) sec
  have i1 := x_is_there h1 hd
  have hq1 : st1[q]? = some (cntC s.reads s.writes s.syncs) := (ch.2 q (RelS.lt hq) w.nq).trans hq
  have n3 : ixN 3 1 = some 1 := rfl
  have eo := h.o
  unfold m__law_one b__law_one
  cases ht : t d with
  | true =>
    rw [ht] at i1
    rw [ht, if_pos rfl, if_pos rfl, op_eq s] at h1
    have rows : ∀ e, fset (fun d => (ws d).map wD) d ((ws d).map wD ++ [wD (sec, .list (secN b))]) e = (fset ws d (ws d ++ [(sec, .list (secN b))]) e).map wD := fun e => by
      by_cases z : e = d
      · subst z; rw [fset_same, fset_same, List.map_append]; rfl
      · rw [fset_ne z, fset_ne z]
    have h2 := hk_setq (H3.rows h1 (fun _ _ => rfl) (fun e _ => rows e) (fun _ _ => rfl)) w.nq (cntC s.reads (s.writes + 1) s.syncs)
    have eo1 := HK.o h1
    refine ⟨_, _, _, ?_, ⟨h2, w.len, w.row, fun e he p hp => ?_, fun e he => ?_, set_at hq1, w.nq, w.on, w.los⟩, rfl⟩
    · clear h h1 h2 ch w rows lw
      walk_at "ev*"
    · by_cases z : e = d
      · subst z
        rw [fset_same] at hp
        rcases List.mem_append.mp hp with hp | hp
        · exact w.w1 e he p hp
        · rw [List.mem_singleton] at hp
          subst hp
          exact ⟨hs, sec_secN h256⟩
      · rw [fset_ne z] at hp
        exact w.w1 e he p hp
    · by_cases z : e = d
      · subst z
        rw [fset_same, List.length_append]
        exact Nat.succ_le_succ lw
      · rw [fset_ne z]; exact Nat.le_succ_of_le (w.w2 e he)
  | false =>
    rw [ht] at i1
    rw [ht, if_neg Bool.false_ne_true, if_neg Bool.false_ne_true, op_eq s] at h1
    have h2 := hk_setq h1 w.nq (cntC s.reads (s.writes + 0) s.syncs)
    have eo1 := HK.o h1
    refine ⟨_, _, ws, ?_, ⟨h2, w.len, w.row, w.w1, fun e he => Nat.le_succ_of_le (w.w2 e he), ?_, w.nq, w.on, w.los⟩, rfl⟩
    · clear h h1 h2 ch w lw
      walk_at "ev*"
    · rw [set_at hq1, Int.add_zero]
end
end
end Lw
namespace Lw
open PySem PySem.Spec PyProof.Rows L2 Am
section
variable {P : Program} {w : World} {K : PySem.W.Frag} {mg : Str → Option Value} {base : Heap}
section
variable {k : Nat} {s : DS} {f : Nat → List D} {ws : Nat → List (Nat × D)} {t : Nat → Bool} {pl : Ro → Nat} {q : Nat} {st : Store}
theorem x_one_fail (w : LS k s f ws t pl q st) (hf : s.fuse = .int 0) {N : Nat} (hN : N % 5 ≠ 1) :
    ∃ st1, m__law_one [.c (pl .o), .c q, .d (.int (N : Nat))] st = .ex ⟨"PowerOff", none⟩ st1 ∧ HK s.fail 4 f (fun d => (ws d).map wD) t pl st1 ∧ st1[q]? = some (cntC s.reads s.writes s.syncs) ∧ Chg (F3 4 pl) st st1 := by
  have h := w.hk
  have hq := w.qc
  obtain ⟨st1, e1, h1, ch⟩ := x_operation_fail h w.on hf
  have eo := h.o
  have c1 : decide ((N : Int) % 5 = 1) = false := decide_eq_false (by omega)
  refine ⟨st1, ?_, h1, (ch.2 q (RelS.lt hq) w.nq).trans hq, ch⟩
  have lc : ∀ d, mLc false [4] (pt1 4) (iRng1M (mCons (mC (.int 32)) mNil)) mYes (mBin gMod (mVar 2) (mC (.int 256))) [some (.c (pl .o)), some (.c q), some (.d (.int (N : Nat))), d, none] st = .ok (.d (.list (secN (N % 256)))) st := fun d => by
    rw [mLc_range (lo := 0) (s := 1) (n := 32) (st1 := st) (fun _ => .int (N % 256 : Nat)) (by
      walk_at "ev*"
      rfl) (by unfold SZ; omega) (fun i hi ac => by
      unfold wipeA wipeA
      walk_at "ev*"
      rfl)]
    rfl
  have e2 : ∀ a b c, m_Disks_write [.c (pl .o), a, b, c] st = .ex ⟨"PowerOff", none⟩ st1 := fun a b c => by
    unfold m_Disks_write b_Disks_write
    clear h w h1 ch
    walk_at "ev*"
  have e3 : m_Disks_sync [.c (pl .o)] st = .ex ⟨"PowerOff", none⟩ st1 := by
    unfold m_Disks_sync b_Disks_sync
    clear h w h1 ch
    walk_at "ev*"
  unfold m__law_one b__law_one
  clear h w h1 ch e1
  by_cases z : N % 5 = 0
  · have c0 : decide ((N : Int) % 5 = 0) = true := decide_eq_true (by omega)
    walk_at "ev*"
  · have c0 : decide ((N : Int) % 5 = 0) = false := decide_eq_false (by omega)
    walk_at "ev*"
/-- one deed, while the power holds -/
theorem x_one (w : LS k s f ws t pl q st) (hk : k ≤ 1000) {l : Nat} (hf : s.fuse = .int (l : Nat)) (N : Nat) :
    (∃ st1 s1 f1 ws1 pl1 r, m__law_one [.c (pl .o), .c q, .d (.int (N : Nat))] st = .ok (.d (.int (r : Nat))) st1 ∧ r ≤ l ∧ LS (k + 1) s1 f1 ws1 t pl1 q st1 ∧ s1.fuse = .int ((l : Int) - (r : Nat)) ∧ pl1 .o = pl .o) ∨
    (l = 0 ∧ ∃ st1, m__law_one [.c (pl .o), .c q, .d (.int (N : Nat))] st = .ex ⟨"PowerOff", none⟩ st1 ∧ HK s.fail 4 f (fun d => (ws d).map wD) t pl st1 ∧ st1[q]? = some (cntC s.reads s.writes s.syncs) ∧ Chg (F3 4 pl) st st1) := by
  by_cases h1 : N % 5 = 1
  · obtain ⟨st1, s1, e, w1, e1⟩ := x_one_ask w h1
    exact .inl ⟨st1, s1, f, ws, pl, 0, e, Nat.zero_le _, ⟨w1.hk, w1.len, w1.row, w1.w1, fun d hd => Nat.le_succ_of_le (w1.w2 d hd), w1.qc, w1.nq, w1.on, w1.los⟩, by rw [e1, hf]; congr 1, rfl⟩
  · by_cases hl : l = 0
    · subst hl
      exact .inr ⟨rfl, x_one_fail w hf h1⟩
    · have go : Goes s := ⟨w.on, .inr ⟨_, hf, by omega⟩⟩
      have eo : s.op.fuse = .int ((l : Int) - (1 : Nat)) := by unfold DS.op; rw [hf]; rfl
      by_cases h0 : N % 5 = 0
      · obtain ⟨st1, f1, pl1, e, w1, o1⟩ := x_one_sync w go hk h0
        exact .inl ⟨st1, _, f1, _, pl1, 1, e, by omega, w1, eo, o1⟩
      · obtain ⟨st1, s1, ws1, e, w1, e1⟩ := x_one_write w go hk ⟨h0, h1⟩
        exact .inl ⟨st1, s1, f, ws1, pl, 1, e, by omega, w1, e1.trans eo, rfl⟩
end
end
end Lw
namespace Lw
open PySem PySem.Spec PyProof.Rows L2 Am
section
variable {P : Program} {w : World} {K : PySem.W.Frag} {mg : Str → Option Value} {base : Heap}
theorem forA_or {g : MG} {b : MS} {ok : Store → Prop} {xs : List A} {σ : Slots} {st : Store} {o : Out} (ho : forA g b ok xs σ st = o) (I : Nat → Slots → Store → Prop) (R : A → Store → Prop) (h0 : I 0 σ st) (hok : ∀ i σ st, i ≤ xs.length → I i σ st → ok st)
    (hs : ∀ i x σ st, xs[i]? = some x → I i σ st → (∃ σ1 st1, turn g b x σ st = .nx σ1 st1 ∧ I (i + 1) σ1 st1) ∨ ∃ a st1, turn g b x σ st = .rt a st1 ∧ R a st1) :
    (∃ σ1 st1, o = .nx σ1 st1 ∧ I xs.length σ1 st1) ∨ ∃ a st1, o = .rt a st1 ∧ R a st1 := by
  subst ho
  induction xs generalizing σ st I with
  | nil => exact .inl ⟨σ, st, by rw [forA, needO_pos (hok 0 _ _ (Nat.le_refl _) h0)], h0⟩
  | cons x xs ih =>
    have e0 : forA g b ok (x :: xs) σ st = match turn g b x σ st with
      | .nx σ2 st2 => forA g b ok xs σ2 st2
      | .ct σ2 st2 => forA g b ok xs σ2 st2
      | .bk σ2 st2 => .nx σ2 st2
      | o => o := by
      rw [forA, needO_pos (hok 0 _ _ (Nat.zero_le _) h0)]
      unfold turn
      cases g x σ st with
      | none => rfl
      | some y => rfl
    rcases hs 0 x σ st rfl h0 with ⟨σ1, st1, e1, i1⟩ | ⟨a, st1, e1, r1⟩
    · rw [e0, e1]
      exact ih (I := fun i => I (i + 1)) i1 (fun i σ st hi h => hok (i + 1) σ st (by rw [List.length_cons]; omega) h) fun i y σ st hy h => hs (i + 1) y σ st (by rw [List.getElem?_cons_succ]; exact hy) h
    · exact .inr ⟨a, st1, by rw [e0, e1], r1⟩
theorem forR_or {g : MG} {b : MS} {ok : Store → Prop} {lo : Int} {n : Nat} {σ : Slots} {st : Store} {o : Out} (ho : forA g b ok (rangeA lo n 1) σ st = o) (I : Nat → Slots → Store → Prop) (R : A → Store → Prop) (h0 : I 0 σ st) (hok : ∀ i σ st, i ≤ n → I i σ st → ok st)
    (hs : ∀ i σ st, i < n → I i σ st → (∃ σ1 st1, turn g b (.d (.int (lo + (i : Nat)))) σ st = .nx σ1 st1 ∧ I (i + 1) σ1 st1) ∨ ∃ a st1, turn g b (.d (.int (lo + (i : Nat)))) σ st = .rt a st1 ∧ R a st1) :
    (∃ σ1 st1, o = .nx σ1 st1 ∧ I n σ1 st1) ∨ ∃ a st1, o = .rt a st1 ∧ R a st1 := by
  have q := forA_or ho I R h0 (fun i σ st hi h => hok i σ st (by rw [rangeA_length] at hi; exact hi) h) (fun i x σ st hx h => by
    obtain ⟨hi, rfl⟩ := rangeA_get hx
    rw [Int.mul_one]
    exact hs i σ st hi h)
  rwa [rangeA_length] at q
theorem tup_q {q : Nat} {st : Store} {a b c : Int} (h : st[q]? = some (cntC a b c)) : gTupOf [.c q] st = .ok (.d (.tup [.int a, .int b, .int c])) st := by
  rw [gTupOf_c, viewS_c, h]
  show mkT _ _ = _
  unfold mkT
  rw [ifc_pos (by show 3 ≤ SZ; unfold SZ; decide)]
  rfl
section
variable {k : Nat} {s : DS} {f : Nat → List D} {ws : Nat → List (Nat × D)} {t : Nat → Bool} {pl : Ro → Nat} {q : Nat} {st : Store}
/-- power comes back, at the end -/
theorem x_end (w : LS k s f ws t pl q st) : ∃ st1 s1 pl1 f1, m_Disks_power [.c (pl .o), .d (.list [])] st = .ok (.d .non) st1 ∧ HK s1 4 f1 (fun _ => []) t pl1 st1 ∧ pl1 .o = pl .o ∧ s1.powered = true ∧ s1.losses = 1 ∧ s1.reads = s.reads ∧ s1.writes = s.writes ∧ s1.syncs = s.syncs ∧ st1[q]? = some (cntC s.reads s.writes s.syncs) := by
  obtain ⟨st1, pl1, e1, h1, ch, sb, o1⟩ := x_power w.hk (by decide) (ws := ws) (fun _ _ => rfl) (fun d hd p hp => by have := (w.w1 d hd p hp).1; rw [w.len d hd]; omega) (a := .d (.list [])) (kss := []) rfl (fun _ z => nomatch z)
  refine ⟨st1, _, pl1, _, e1, h1, o1, rfl, ?_, ?_, ?_, ?_, (ch.2 q (RelS.lt w.qc) w.nq).trans w.qc⟩ <;> (unfold DS.back; rw [w.on, if_pos rfl]; unfold DS.fail)
  · show s.losses + 1 = 1; rw [w.los]; rfl
  all_goals rfl
end
end
end Lw
namespace Lw
open PySem PySem.Spec PyProof.Rows L2 Am
section
variable {P : Program} {w : World} {K : PySem.W.Frag} {mg : Str → Option Value} {base : Heap}
section
variable {k : Nat} {s : DS} {f : Nat → List D} {ws : Nat → List (Nat × D)} {t : Nat → Bool} {pl : Ro → Nat} {q : Nat} {st : Store} {o : Nat}
def DS.dark (s : DS) : DS := ⟨s.sizes, false, .non, 1, s.reads, s.writes, s.syncs, false, s.formatted, s.scrub⟩
theorem fail_dark (h : s.losses = 0) : s.fail = s.dark := by
  unfold DS.fail DS.dark
  rw [h]; rfl
noncomputable def tryB : MS := (mTry isE "PowerOff"
  (mSeq (mSet 2 (mBin gSub (mVar 2) (mCall m__law_one (mCons (mVar 1) (mCons (mVar 3) (mCons (mVar 5) mNil))))))
  (mIf (mOr (mTst (mBin gLt (mVar 2) (mC (.int 0)))) (mTst (mBin (gEq true) (mMeth "Disks" "losses" m_Disks_losses (mVar 1) mNil) (mC (.int 0)))))
  (mRet (mC (.bl false)))
  mSkip))
  (mSeq (mIf (mOr (mTst (mBin (gEq true) (mVar 2) (mC (.int 0)))) (mOr (mTst (mBin (gEq true) (mMeth "Disks" "losses" mh_Disks_losses (mVar 1) mNil) (mC (.int 1)))) (mOr (mNot (mTru (mCall mh__law_dark (mCons (mVar 1) mNil)))) (mTst (mBin (gEq true) (mMeth "Disks" "counts" mh_Disks_counts (mVar 1) mNil) (mCallB gTupOf (mCons (mVar 3) mNil)))))))
  (mRet (mC (.bl false)))
  mSkip)
  (mSeq (mDo (mMeth "Disks" "power" mh_Disks_power (mVar 1) (mCons (mList false mNil) mNil)))
  (mRet (mAndV (mMeth "Disks" "is_on" mh_Disks_is_on (mVar 1) mNil) (mAndV (mBin (gEq false) (mMeth "Disks" "losses" mh_Disks_losses (mVar 1) mNil) (mC (.int 1))) (mBin (gEq false) (mMeth "Disks" "counts" mh_Disks_counts (mVar 1) mNil) (mCallB gTupOf (mCons (mVar 3) mNil)))))))))
theorem x_try (w : LS k s f ws t pl q st) (hk : k ≤ 1000) {l : Nat} (hf : s.fuse = .int (l : Nat)) (N : Nat) (ho : pl .o = o) (y0 y4 : Option A) :
    (∃ st1 s1 f1 ws1 pl1 l1, tryB [y0, some (.c o), some (.d (.int (l : Nat))), some (.c q), y4, some (.d (.int (N : Nat)))] st = .nx [y0, some (.c o), some (.d (.int (l1 : Nat))), some (.c q), y4, some (.d (.int (N : Nat)))] st1 ∧ LS (k + 1) s1 f1 ws1 t pl1 q st1 ∧ s1.fuse = .int (l1 : Nat) ∧ pl1 .o = o) ∨
    ∃ st1, tryB [y0, some (.c o), some (.d (.int (l : Nat))), some (.c q), y4, some (.d (.int (N : Nat)))] st = .rt (.d (.bl true)) st1 := by
  subst ho
  have eo := w.hk.o
  rcases x_one w hk hf N with ⟨st1, s1, f1, ws1, pl1, r, e1, hr, w1, hf1, o1⟩ | ⟨h0, st1, e1, h1, hq, ch⟩
  · left
    have e2 := x_losses w1.hk
    have eo1 := w1.hk.o
    rw [w1.los] at e2
    rw [o1] at e2 eo1
    have z0 : decide ((0 : Int) ≠ 0) = false := by decide
    have d1 : decide ((l : Int) - (r : Int) < 0) = false := decide_eq_false (by omega)
    have e3 : (l : Int) - (r : Int) = ((l - r : Nat) : Int) := by omega
    refine ⟨st1, s1, f1, ws1, pl1, l - r, ?_, w1, by rw [hf1, e3], o1⟩
    unfold tryB mTry
    have hb : (mSeq (mSet 2 (mBin gSub (mVar 2) (mCall m__law_one (mCons (mVar 1) (mCons (mVar 3) (mCons (mVar 5) mNil))))))
        (mIf (mOr (mTst (mBin gLt (mVar 2) (mC (.int 0)))) (mTst (mBin (gEq true) (mMeth "Disks" "losses" m_Disks_losses (mVar 1) mNil) (mC (.int 0)))))
        (mRet (mC (.bl false)))
        mSkip)) [y0, some (.c (pl .o)), some (.d (.int (l : Nat))), some (.c q), y4, some (.d (.int (N : Nat)))] st = .nx [y0, some (.c (pl .o)), some (.d (.int ((l - r : Nat) : Int))), some (.c q), y4, some (.d (.int (N : Nat)))] st1 := by
      rw [← e3]
      clear w w1 e3
      walk_at "ev*"
    simp only [hb]
  · right
    subst h0
    rw [fail_dark w.los] at h1
    have bs : ∀ x S g a, bin2 (.ex x S) g a = .ex x S := fun _ _ _ _ => rfl
    have z1 : decide ((1 : Int) ≠ 1) = false := by decide
    have z2 : decide ((1 : Int) = 1) = true := by decide
    have e2 : mh_Disks_losses [.c (pl .o)] st1 = .ok (.d (.int 1)) st1 := xh_losses (s := s.dark) h1
    have e3 := x_darkH h1 rfl
    have e4 : mh_Disks_counts [.c (pl .o)] st1 = .ok (.d (.tup [.int s.reads, .int s.writes, .int s.syncs])) st1 := xh_counts (s := s.dark) h1
    have eo1 := h1.o
    obtain ⟨st2, pl2, e5, h2, c2, s2, o2⟩ := xh_power h1 (by decide) rfl
    have nq1 : ¬ F3 4 pl q := w.nq
    have hq2 : st2[q]? = some (cntC s.reads s.writes s.syncs) := (c2.2 q (RelS.lt hq) w.nq).trans hq
    have e6 : mh_Disks_losses [.c (pl2 .o)] st2 = .ok (.d (.int 1)) st2 := by have z := xh_losses h2; exact z
    have e7 : mh_Disks_counts [.c (pl2 .o)] st2 = .ok (.d (.tup [.int s.reads, .int s.writes, .int s.syncs])) st2 := by have z := xh_counts h2; exact z
    have e8 : mh_Disks_is_on [.c (pl2 .o)] st2 = .ok (.d (.bl true)) st2 := by have z := xh_is_on h2; exact z
    have eo2 := HK.o h2
    rw [o2] at e6 e7 e8 eo2
    have t1 := tup_q hq
    have t2 := tup_q hq2
    have g1 := fun st => eq_3 s.reads s.writes s.syncs true st
    have g2 := fun st => eq_3 s.reads s.writes s.syncs false st
    refine ⟨st2, ?_⟩
    unfold tryB mTry
    have hb : (mSeq (mSet 2 (mBin gSub (mVar 2) (mCall m__law_one (mCons (mVar 1) (mCons (mVar 3) (mCons (mVar 5) mNil))))))
        (mIf (mOr (mTst (mBin gLt (mVar 2) (mC (.int 0)))) (mTst (mBin (gEq true) (mMeth "Disks" "losses" m_Disks_losses (mVar 1) mNil) (mC (.int 0)))))
        (mRet (mC (.bl false)))
        mSkip)) [y0, some (.c (pl .o)), some (.d (.int ((0 : Nat) : Int))), some (.c q), y4, some (.d (.int (N : Nat)))] st = .ex ⟨"PowerOff", none⟩ [y0, some (.c (pl .o)), some (.d (.int ((0 : Nat) : Int))), some (.c q), y4, some (.d (.int (N : Nat)))] st1 := by
      clear w h1 h2 e2 e3 e4 e5 e6 e7 e8 t1 t2 g1 g2
      walk_at "ev*"
    have ip : isE (⟨"PowerOff", none⟩ : Exn).cls "PowerOff" = some true := isE_po
    simp only [hb, ip]
    have nr : ∀ a S, noExO (.rt a S) = .rt a S := fun _ _ => rfl
    have d0 : decide (((0 : Nat) : Int) ≠ 0) = false := by decide
    clear hb w h1 h2 ch c2 s2 nq1 ip e1 hf
    walk_at "ev*"
end
end
end Lw
namespace Lw
open PySem PySem.Spec PyProof.Rows L2 Am
section
variable {P : Program} {w : World} {K : PySem.W.Frag} {mg : Str → Option Value} {base : Heap}
theorem x_law (ns : List Int) (hl : ns.length ≤ 63) : ∃ st, m_law [.d (.scr (ns.map D.int))] [] = .ok (.d (.bl true)) st := by
  obtain ⟨n0, _, d0⟩ := x_draw ns 0 (by decide) hl
  obtain ⟨n1, _, d1⟩ := x_draw ns 1 (by decide) hl
  obtain ⟨n2, _, d2⟩ := x_draw ns 2 (by decide) hl
  have d0 : ∀ st, m__law_draw [.d (.scr (ns.map D.int)), .d (.int 0)] st = .ok (.d (.int (n0 : Nat))) st := d0
  have d1 : ∀ st, m__law_draw [.d (.scr (ns.map D.int)), .d (.int 1)] st = .ok (.d (.int (n1 : Nat))) st := d1
  have d2 : ∀ st, m__law_draw [.d (.scr (ns.map D.int)), .d (.int 2)] st = .ok (.d (.int (n2 : Nat))) st := d2
  obtain ⟨L, ew⟩ := x_wrong (n0 % 100) (Nat.mod_lt _ (by decide)) []
  have m0 : (n0 : Int) % 100 = ((n0 % 100 : Nat) : Int) := rfl
  have m1 : (n1 : Int) % 4 = ((n1 % 4 : Nat) : Int) := rfl
  have m2 : (n2 : Int) % 13 = ((n2 % 13 : Nat) : Int) := rfl
  have h4 : n1 % 4 < 4 := Nat.mod_lt _ (by decide)
  generalize n0 % 100 = p0 at *
  generalize n1 % 4 = p1 at *
  generalize n2 % 13 = p2 at *
  generalize hS : ([] : Store) ++ L = S0 at *
  obtain ⟨S1, e1, h1, -⟩ := x_init 4 48 2 1 (by decide) (by decide) (by decide) (by decide) (by decide) (by decide) (by decide) S0
  have e1 : m_Disks___init__ [.c S0.length, .d (.int 4), .d (.int 48), .d (.int 2), .d (.int 1)] (S0 ++ [.ins "Disks" []]) = .ok (.d .non) S1 := e1
  have eo1 := h1.o
  obtain ⟨S2, pl2, e2, h2, c2, b2, o2⟩ := x_away h1 h4
  have eo2 := HK.o h2
  obtain ⟨S3, e3, h3, c3⟩ := x_fail_after h2 rfl 90
  have eo3 := HK.o h3
  obtain ⟨S4, e4, h4', c4⟩ := x_fail_after h3 rfl (p2 : Nat)
  have po : plN S0.length 4 .o = S0.length := rfl
  rw [o2] at e3 e4 eo2 eo3
  rw [po] at e2 o2 eo1 e3 e4 eo2 eo3
  have h5 := Holds.app h4' [cntC 0 0 0]
  have nq : ¬ F3 4 pl2 S4.length := fun z => Nat.lt_irrefl _ (Holds.foot_lt h4' z)
  have w : LS 0 ({ (DS.new 4 48 2 1) with fuse := .int (p2 : Nat) } : DS) (fun _ => nones 48) (fun _ => []) (fset (fun _ => true) p1 false) pl2 S4.length (S4 ++ [cntC 0 0 0]) := by
    refine ⟨H3.rows h5 (fun _ _ => rfl) (fun d hd => ?_) (fun _ _ => rfl), fun d hd => List.length_replicate, fun d hd x hx => .inl (List.eq_of_mem_replicate hx), fun d hd p hp => (nomatch hp), fun _ _ => Nat.le_refl _, loc_get0 _ _, nq, rfl, rfl⟩
    by_cases z : d = p1
    · rw [z, fset_same]; rfl
    · rw [fset_ne z]; rfl
  have hx : ∀ S, exitR 2 [] (.d (.bl true)) S = .ok (.d (.bl true)) [] := fun S => exit2_d (.bl true) [] S
  refine ⟨[], ?_⟩
  unfold m_law b_law
  clear h1 h2 h3 h4' h5 c2 c3 c4 b2 nq
  walk_at "ev*"
  generalize ho : forA _ _ _ _ _ _ = o
  have hT : (1 + if (ns.length : Int) < 30 then (ns.length : Int) else 30).toNat ≤ 31 := by
    split <;> omega
  generalize (1 + if (ns.length : Int) < 30 then (ns.length : Int) else 30).toNat = T at hT ho
  rcases forR_or ho (fun i σ st => ∃ s f ws pl l y4 y5, σ = [some (.d (.scr (ns.map D.int))), some (.c S0.length), some (.d (.int (l : Nat))), some (.c S4.length), y4, y5] ∧ LS i s f ws (fset (fun _ => true) p1 false) pl S4.length st ∧ s.fuse = .int (l : Nat) ∧ pl .o = S0.length) (fun a _ => a = .d (.bl true))
    ⟨_, _, _, pl2, p2, _, _, rfl, w, rfl, o2⟩ (fun _ _ _ _ _ => trivial) (fun i σ st hi ⟨s, f, ws, pl, l, y4, y5, e, w, hf, o3⟩ => by
      subst e
      obtain ⟨N, _, dN⟩ := x_draw ns i (by omega) hl
      have dN : ∀ st, m__law_draw [.d (.scr (ns.map D.int)), .d (.int (i : Nat))] st = .ok (.d (.int (N : Nat))) st := dN
      rw [show (0 : Int) + (i : Int) = (i : Int) by omega]
      rcases x_try w (by omega) hf N o3 (some (.d (.scr (ns.map D.int)))) (some (.d (.int (i : Nat)))) with ⟨st1, s1, f1, ws1, pl1, l1, ht, w1, hf1, o4⟩ | ⟨st1, ht⟩
      · left
        have f1 := x_counts w1.hk
        have eo := w1.hk.o
        rw [o4] at f1 eo
        have f2 := tup_q w1.qc
        have f3 := fun st => eq_3 s1.reads s1.writes s1.syncs true st
        refine ⟨[some (.d (.scr (ns.map D.int))), some (.c S0.length), some (.d (.int (l1 : Nat))), some (.c S4.length), some (.d (.int (i : Nat))), some (.d (.int (N : Nat)))], st1, ?_, s1, _, ws1, pl1, l1, some (.d (.int (i : Nat))), some (.d (.int (N : Nat))), rfl, w1, hf1, o4⟩
        clear w w1 ho d0 d1 d2 ew e1 e2 e3 e4 eo1 eo2 eo3 hf hf1
        show turn (kName 4) (mSeq (mSet 5 (mCall m__law_draw (mCons (mVar 0) (mCons (mVar 4) mNil)))) (mSeq tryB (mIf (mTst (mBin (gEq true) (mMeth "Disks" "counts" m_Disks_counts (mVar 1) mNil) (mCallB gTupOf (mCons (mVar 3) mNil)))) (mRet (mC (.bl false))) mSkip))) _ _ _ = _
        walk_at "ev*"
      · right
        refine ⟨_, st1, ?_, rfl⟩
        clear w ho d0 d1 d2 ew e1 e2 e3 e4 eo1 eo2 eo3 hf
        show turn (kName 4) (mSeq (mSet 5 (mCall m__law_draw (mCons (mVar 0) (mCons (mVar 4) mNil)))) (mSeq tryB (mIf (mTst (mBin (gEq true) (mMeth "Disks" "counts" m_Disks_counts (mVar 1) mNil) (mCallB gTupOf (mCons (mVar 3) mNil)))) (mRet (mC (.bl false))) mSkip))) _ _ _ = _
        walk_at "ev*") with ⟨σ5, S5, rfl, s, f, ws, pl, l, y4, y5, rfl, w5, hf5, o5⟩ | ⟨a, S5, rfl, rfl⟩
  · obtain ⟨S6, s6, pl6, f6, e6, h6, o6, g1, g2, g3, g4, g5, q6⟩ := x_end w5
    have f1 := x_is_on h6
    have f2 := x_losses h6
    have f3 := x_counts h6
    have eo5 := w5.hk.o
    have eo6 := HK.o h6
    have f4 := tup_q q6
    rw [g1] at f1
    rw [g2] at f2
    rw [g3, g4, g5] at f3
    rw [o6] at f1 f2 f3 eo6
    rw [o5] at e6 f1 f2 f3 eo6 eo5
    have f5 := fun st => eq_3 s.reads s.writes s.syncs false st
    have z2 : decide ((1 : Int) = 1) = true := by decide
    clear w w5 ho h6 d0 d1 d2 ew e1 e2 e3 e4 eo1 eo2 eo3 hf5
    walk_at "ev*"
  · clear w ho d0 d1 d2 ew e1 e2 e3 e4 eo1 eo2 eo3
    walk_at "ev*"
end
end Lw
namespace Lw
open PySem PySem.Spec PyProof.Rows L2 Am
section
variable {P : Program} {w : World} {K : PySem.W.Frag} {mg : Str → Option Value} {base : Heap}
/-- the law's own promise -/
def spLaw (K : PySem.W.Frag) : Sp := fun vs H Q _ => ∃ (a : Addr) (ns : List Int), vs = [.ref a] ∧ SqL K H a (ns.map V.int) ∧ ns.length ≤ 63 ∧ ∀ H', Q (.bl true) H'
theorem drs_ints (c : Am.Ctx) (G : Hp) : ∀ ns : List Int, DRs c G (ns.map D.int) (ns.map V.int)
  | [] => rfl
  | n :: ns => ⟨_, _, rfl, rfl, drs_ints c G ns⟩
theorem law_ownN {lev : Nat} {ps : List Str} {f : MF} (h : Rw.Has P w K mg base (L2N.CX P w) lev "law" ps (spM ⟨K, mg⟩ f)) (x : ∀ ns : List Int, ns.length ≤ 63 → ∃ st, f [.d (.scr (ns.map D.int))] [] = .ok (.d (.bl true)) st) : Rw.Has P w K mg base (L2N.CX P w) lev "law" ps (spLaw K) :=
  h.imp fun vs H Q E ⟨a, ns, e, hS, hl, q⟩ => by
    subst e
    obtain ⟨st, ex⟩ := x ns hl
    refine ⟨⟨H, fun _ => 0⟩, [], [.d (.scr (ns.map D.int))], ⟨Same.refl _, fun i _ hi => absurd hi (Nat.not_lt_zero i), fun i _ hi => by cases hi⟩, .cons ⟨a, ns.map V.int, rfl, hS, drs_ints _ _ ns⟩ .nil, ?_⟩
    rw [ex]
    intro v w1 H1 _ _ ra
    have : v = .bl true := ra
    rw [this]
    exact q H1
end
end Lw
namespace Lw
open PySem PySem.Spec PyProof.Rows L2 Am
section
variable {P : Program} {w : World} {K : PySem.W.Frag} {mg : Str → Option Value} {base : Heap}
theorem has_lawL (T : Txt K mg) : Rw.Has P w K mg base (L2N.CX P w) 5 "law" ["_law_script"] (spLaw K) := law_ownN (has_law T) x_law
end
end Lw
namespace Lw
open PySem PySem.Spec PyProof.Rows L2 Rw Fld
theorem txt_mk {K : PySem.W.Frag} {h : Heap} {mg : Str → Option Value} (X : K.In h) (G : h.Ns mainGlobals mg)
    {C100001 : Addr} {C100002 : Addr} {C100003 : Addr} {C100004 : Addr} {f100005 : Addr} {od100005 an100005 : Option Addr} {sl100005 : Array (Option Value)} {oc100005 kV100005 dc100005 pm100005 cd100005 ct100005 : Value} {f100006 : Addr} {od100006 an100006 : Option Addr} {sl100006 : Array (Option Value)} {oc100006 kV100006 dc100006 pm100006 cd100006 ct100006 : Value} {f100007 : Addr} {od100007 an100007 : Option Addr} {sl100007 : Array (Option Value)} {oc100007 kV100007 dc100007 pm100007 cd100007 ct100007 : Value} {f100008 : Addr} {od100008 an100008 : Option Addr} {sl100008 : Array (Option Value)} {oc100008 kV100008 dc100008 pm100008 cd100008 ct100008 : Value} {f100009 : Addr} {od100009 an100009 : Option Addr} {sl100009 : Array (Option Value)} {oc100009 kV100009 dc100009 pm100009 cd100009 ct100009 : Value} {f100010 : Addr} {od100010 an100010 : Option Addr} {sl100010 : Array (Option Value)} {oc100010 kV100010 dc100010 pm100010 cd100010 ct100010 : Value} {f100011 : Addr} {od100011 an100011 : Option Addr} {sl100011 : Array (Option Value)} {oc100011 kV100011 dc100011 pm100011 cd100011 ct100011 : Value} {f100012 : Addr} {od100012 an100012 : Option Addr} {sl100012 : Array (Option Value)} {oc100012 kV100012 dc100012 pm100012 cd100012 ct100012 : Value} {f100013 : Addr} {od100013 an100013 : Option Addr} {sl100013 : Array (Option Value)} {oc100013 kV100013 dc100013 pm100013 cd100013 ct100013 : Value} {f100014 : Addr} {od100014 an100014 : Option Addr} {sl100014 : Array (Option Value)} {oc100014 kV100014 dc100014 pm100014 cd100014 ct100014 : Value} {f100015 : Addr} {od100015 an100015 : Option Addr} {sl100015 : Array (Option Value)} {oc100015 kV100015 dc100015 pm100015 cd100015 ct100015 : Value} {f100016 : Addr} {od100016 an100016 : Option Addr} {sl100016 : Array (Option Value)} {oc100016 kV100016 dc100016 pm100016 cd100016 ct100016 : Value} {f100017 : Addr} {od100017 an100017 : Option Addr} {sl100017 : Array (Option Value)} {oc100017 kV100017 dc100017 pm100017 cd100017 ct100017 : Value} {f100018 : Addr} {od100018 an100018 : Option Addr} {sl100018 : Array (Option Value)} {oc100018 kV100018 dc100018 pm100018 cd100018 ct100018 : Value} {f100019 : Addr} {od100019 an100019 : Option Addr} {sl100019 : Array (Option Value)} {oc100019 kV100019 dc100019 pm100019 cd100019 ct100019 : Value} {f100020 : Addr} {od100020 an100020 : Option Addr} {sl100020 : Array (Option Value)} {oc100020 kV100020 dc100020 pm100020 cd100020 ct100020 : Value} {f100021 : Addr} {od100021 an100021 : Option Addr} {sl100021 : Array (Option Value)} {oc100021 kV100021 dc100021 pm100021 cd100021 ct100021 : Value} {f100022 : Addr} {od100022 an100022 : Option Addr} {sl100022 : Array (Option Value)} {oc100022 kV100022 dc100022 pm100022 cd100022 ct100022 : Value} {f100023 : Addr} {od100023 an100023 : Option Addr} {sl100023 : Array (Option Value)} {oc100023 kV100023 dc100023 pm100023 cd100023 ct100023 : Value} {f100024 : Addr} {od100024 an100024 : Option Addr} {sl100024 : Array (Option Value)} {oc100024 kV100024 dc100024 pm100024 cd100024 ct100024 : Value} {f100065 : Addr} {od100065 an100065 : Option Addr} {sl100065 : Array (Option Value)} {oc100065 kV100065 dc100065 pm100065 cd100065 ct100065 : Value} {f100066 : Addr} {od100066 an100066 : Option Addr} {sl100066 : Array (Option Value)} {oc100066 kV100066 dc100066 pm100066 cd100066 ct100066 : Value} {f100067 : Addr} {od100067 an100067 : Option Addr} {sl100067 : Array (Option Value)} {oc100067 kV100067 dc100067 pm100067 cd100067 ct100067 : Value} {f100068 : Addr} {od100068 an100068 : Option Addr} {sl100068 : Array (Option Value)} {oc100068 kV100068 dc100068 pm100068 cd100068 ct100068 : Value} {f100069 : Addr} {od100069 an100069 : Option Addr} {sl100069 : Array (Option Value)} {oc100069 kV100069 dc100069 pm100069 cd100069 ct100069 : Value} {f100070 : Addr} {od100070 an100070 : Option Addr} {sl100070 : Array (Option Value)} {oc100070 kV100070 dc100070 pm100070 cd100070 ct100070 : Value} {f100071 : Addr} {od100071 an100071 : Option Addr} {sl100071 : Array (Option Value)} {oc100071 kV100071 dc100071 pm100071 cd100071 ct100071 : Value}
    (aC100001 : PySem.W.nsIn K mainGlobals "RotError" = some (some (.ref C100001))) (xe100001 : PySem.W.excIn K C100001 [.type "ValueError", .type "Exception", .type "BaseException", .type "object"] "ValueError.__new__" = true) (kc100001 : PySem.W.keepIn K (.ref C100001) = true) (sb100001 : PySem.W.subIn K (.ref C100001) (.type "BaseException") = some true) (ty100001 : PySem.W.typeIn K (.ref C100001) = some (.type "type")) (ic100001 : PySem.W.isClsIn K C100001 = true) (aC100002 : PySem.W.nsIn K mainGlobals "InvalidArgument" = some (some (.ref C100002))) (xe100002 : PySem.W.excIn K C100002 [.type "ValueError", .type "Exception", .type "BaseException", .type "object"] "ValueError.__new__" = true) (kc100002 : PySem.W.keepIn K (.ref C100002) = true) (sb100002 : PySem.W.subIn K (.ref C100002) (.type "BaseException") = some true) (ty100002 : PySem.W.typeIn K (.ref C100002) = some (.type "type")) (ic100002 : PySem.W.isClsIn K C100002 = true) (aC100003 : PySem.W.nsIn K mainGlobals "PowerOff" = some (some (.ref C100003))) (xe100003 : PySem.W.excIn K C100003 [.type "ValueError", .type "Exception", .type "BaseException", .type "object"] "ValueError.__new__" = true) (kc100003 : PySem.W.keepIn K (.ref C100003) = true) (sb100003 : PySem.W.subIn K (.ref C100003) (.type "BaseException") = some true) (ty100003 : PySem.W.typeIn K (.ref C100003) = some (.type "type")) (ic100003 : PySem.W.isClsIn K C100003 = true) (aC100004 : PySem.W.nsIn K mainGlobals "Disks" = some (some (.ref C100004))) (pg100004 : PySem.W.plainGet K C100004 Str.empty = true) (hd100004 : PySem.W.hasDictIn K C100004 = true) (po100004 : PySem.W.plainOver K C100004 = true) (sa100004 : PySem.W.findIn K (.ref C100004) "__setattr__" = some (some (.builtin "object.__setattr__"))) (mk100004 : PySem.W.makesIn K C100004 = true) (kc100004 : PySem.W.keepIn K (.ref C100004) = true) (a100005 : PySem.W.findIn K (.ref C100004) "__init__" = some (some (.ref f100005))) (i100005 : PySem.W.isFn K (.ref f100005) = true) (l100005 : K.lookup f100005 = some ⟨oc100005, od100005, .func (PySem.W.fnOf "__init__" "Disks.__init__" (defArgs (inClass (topS 7) 0)) (defBody (inClass (topS 7) 0)) (defScope (inClass (topS 7) 0)) .none kV100005 dc100005 pm100005 an100005 cd100005 ct100005), sl100005⟩) (c100005 : PySem.W.codeIn K cd100005 "Disks.__init__" = true) (k100005 : PySem.W.keepIn K (.ref f100005) = true) (a100006 : PySem.W.findIn K (.ref C100004) "sizes" = some (some (.ref f100006))) (i100006 : PySem.W.isFn K (.ref f100006) = true) (l100006 : K.lookup f100006 = some ⟨oc100006, od100006, .func (PySem.W.fnOf "sizes" "Disks.sizes" (defArgs (inClass (topS 7) 1)) (defBody (inClass (topS 7) 1)) (defScope (inClass (topS 7) 1)) .none kV100006 dc100006 pm100006 an100006 cd100006 ct100006), sl100006⟩) (c100006 : PySem.W.codeIn K cd100006 "Disks.sizes" = true) (k100006 : PySem.W.keepIn K (.ref f100006) = true) (a100007 : PySem.W.findIn K (.ref C100004) "counts" = some (some (.ref f100007))) (i100007 : PySem.W.isFn K (.ref f100007) = true) (l100007 : K.lookup f100007 = some ⟨oc100007, od100007, .func (PySem.W.fnOf "counts" "Disks.counts" (defArgs (inClass (topS 7) 2)) (defBody (inClass (topS 7) 2)) (defScope (inClass (topS 7) 2)) .none kV100007 dc100007 pm100007 an100007 cd100007 ct100007), sl100007⟩) (c100007 : PySem.W.codeIn K cd100007 "Disks.counts" = true) (k100007 : PySem.W.keepIn K (.ref f100007) = true) (a100008 : PySem.W.findIn K (.ref C100004) "is_on" = some (some (.ref f100008))) (i100008 : PySem.W.isFn K (.ref f100008) = true) (l100008 : K.lookup f100008 = some ⟨oc100008, od100008, .func (PySem.W.fnOf "is_on" "Disks.is_on" (defArgs (inClass (topS 7) 3)) (defBody (inClass (topS 7) 3)) (defScope (inClass (topS 7) 3)) .none kV100008 dc100008 pm100008 an100008 cd100008 ct100008), sl100008⟩) (c100008 : PySem.W.codeIn K cd100008 "Disks.is_on" = true) (k100008 : PySem.W.keepIn K (.ref f100008) = true) (a100009 : PySem.W.findIn K (.ref C100004) "losses" = some (some (.ref f100009))) (i100009 : PySem.W.isFn K (.ref f100009) = true) (l100009 : K.lookup f100009 = some ⟨oc100009, od100009, .func (PySem.W.fnOf "losses" "Disks.losses" (defArgs (inClass (topS 7) 4)) (defBody (inClass (topS 7) 4)) (defScope (inClass (topS 7) 4)) .none kV100009 dc100009 pm100009 an100009 cd100009 ct100009), sl100009⟩) (c100009 : PySem.W.codeIn K cd100009 "Disks.losses" = true) (k100009 : PySem.W.keepIn K (.ref f100009) = true) (a100010 : PySem.W.findIn K (.ref C100004) "is_there" = some (some (.ref f100010))) (i100010 : PySem.W.isFn K (.ref f100010) = true) (l100010 : K.lookup f100010 = some ⟨oc100010, od100010, .func (PySem.W.fnOf "is_there" "Disks.is_there" (defArgs (inClass (topS 7) 5)) (defBody (inClass (topS 7) 5)) (defScope (inClass (topS 7) 5)) .none kV100010 dc100010 pm100010 an100010 cd100010 ct100010), sl100010⟩) (c100010 : PySem.W.codeIn K cd100010 "Disks.is_there" = true) (k100010 : PySem.W.keepIn K (.ref f100010) = true) (a100011 : PySem.W.findIn K (.ref C100004) "cell" = some (some (.ref f100011))) (i100011 : PySem.W.isFn K (.ref f100011) = true) (l100011 : K.lookup f100011 = some ⟨oc100011, od100011, .func (PySem.W.fnOf "cell" "Disks.cell" (defArgs (inClass (topS 7) 6)) (defBody (inClass (topS 7) 6)) (defScope (inClass (topS 7) 6)) .none kV100011 dc100011 pm100011 an100011 cd100011 ct100011), sl100011⟩) (c100011 : PySem.W.codeIn K cd100011 "Disks.cell" = true) (k100011 : PySem.W.keepIn K (.ref f100011) = true) (a100012 : PySem.W.findIn K (.ref C100004) "pending" = some (some (.ref f100012))) (i100012 : PySem.W.isFn K (.ref f100012) = true) (l100012 : K.lookup f100012 = some ⟨oc100012, od100012, .func (PySem.W.fnOf "pending" "Disks.pending" (defArgs (inClass (topS 7) 7)) (defBody (inClass (topS 7) 7)) (defScope (inClass (topS 7) 7)) .none kV100012 dc100012 pm100012 an100012 cd100012 ct100012), sl100012⟩) (c100012 : PySem.W.codeIn K cd100012 "Disks.pending" = true) (k100012 : PySem.W.keepIn K (.ref f100012) = true) (a100013 : PySem.W.findIn K (.ref C100004) "ask" = some (some (.ref f100013))) (i100013 : PySem.W.isFn K (.ref f100013) = true) (l100013 : K.lookup f100013 = some ⟨oc100013, od100013, .func (PySem.W.fnOf "ask" "Disks.ask" (defArgs (inClass (topS 7) 8)) (defBody (inClass (topS 7) 8)) (defScope (inClass (topS 7) 8)) .none kV100013 dc100013 pm100013 an100013 cd100013 ct100013), sl100013⟩) (c100013 : PySem.W.codeIn K cd100013 "Disks.ask" = true) (k100013 : PySem.W.keepIn K (.ref f100013) = true) (a100014 : PySem.W.findIn K (.ref C100004) "_fail" = some (some (.ref f100014))) (i100014 : PySem.W.isFn K (.ref f100014) = true) (l100014 : K.lookup f100014 = some ⟨oc100014, od100014, .func (PySem.W.fnOf "_fail" "Disks._fail" (defArgs (inClass (topS 7) 9)) (defBody (inClass (topS 7) 9)) (defScope (inClass (topS 7) 9)) .none kV100014 dc100014 pm100014 an100014 cd100014 ct100014), sl100014⟩) (c100014 : PySem.W.codeIn K cd100014 "Disks._fail" = true) (k100014 : PySem.W.keepIn K (.ref f100014) = true) (a100015 : PySem.W.findIn K (.ref C100004) "_operation" = some (some (.ref f100015))) (i100015 : PySem.W.isFn K (.ref f100015) = true) (l100015 : K.lookup f100015 = some ⟨oc100015, od100015, .func (PySem.W.fnOf "_operation" "Disks._operation" (defArgs (inClass (topS 7) 10)) (defBody (inClass (topS 7) 10)) (defScope (inClass (topS 7) 10)) .none kV100015 dc100015 pm100015 an100015 cd100015 ct100015), sl100015⟩) (c100015 : PySem.W.codeIn K cd100015 "Disks._operation" = true) (k100015 : PySem.W.keepIn K (.ref f100015) = true) (a100016 : PySem.W.findIn K (.ref C100004) "_lay" = some (some (.ref f100016))) (i100016 : PySem.W.isFn K (.ref f100016) = true) (l100016 : K.lookup f100016 = some ⟨oc100016, od100016, .func (PySem.W.fnOf "_lay" "Disks._lay" (defArgs (inClass (topS 7) 11)) (defBody (inClass (topS 7) 11)) (defScope (inClass (topS 7) 11)) .none kV100016 dc100016 pm100016 an100016 cd100016 ct100016), sl100016⟩) (c100016 : PySem.W.codeIn K cd100016 "Disks._lay" = true) (k100016 : PySem.W.keepIn K (.ref f100016) = true) (a100017 : PySem.W.findIn K (.ref C100004) "write" = some (some (.ref f100017))) (i100017 : PySem.W.isFn K (.ref f100017) = true) (l100017 : K.lookup f100017 = some ⟨oc100017, od100017, .func (PySem.W.fnOf "write" "Disks.write" (defArgs (inClass (topS 7) 12)) (defBody (inClass (topS 7) 12)) (defScope (inClass (topS 7) 12)) .none kV100017 dc100017 pm100017 an100017 cd100017 ct100017), sl100017⟩) (c100017 : PySem.W.codeIn K cd100017 "Disks.write" = true) (k100017 : PySem.W.keepIn K (.ref f100017) = true) (a100018 : PySem.W.findIn K (.ref C100004) "sync" = some (some (.ref f100018))) (i100018 : PySem.W.isFn K (.ref f100018) = true) (l100018 : K.lookup f100018 = some ⟨oc100018, od100018, .func (PySem.W.fnOf "sync" "Disks.sync" (defArgs (inClass (topS 7) 13)) (defBody (inClass (topS 7) 13)) (defScope (inClass (topS 7) 13)) .none kV100018 dc100018 pm100018 an100018 cd100018 ct100018), sl100018⟩) (c100018 : PySem.W.codeIn K cd100018 "Disks.sync" = true) (k100018 : PySem.W.keepIn K (.ref f100018) = true) (a100019 : PySem.W.findIn K (.ref C100004) "rot" = some (some (.ref f100019))) (i100019 : PySem.W.isFn K (.ref f100019) = true) (l100019 : K.lookup f100019 = some ⟨oc100019, od100019, .func (PySem.W.fnOf "rot" "Disks.rot" (defArgs (inClass (topS 7) 14)) (defBody (inClass (topS 7) 14)) (defScope (inClass (topS 7) 14)) .none kV100019 dc100019 pm100019 an100019 cd100019 ct100019), sl100019⟩) (c100019 : PySem.W.codeIn K cd100019 "Disks.rot" = true) (k100019 : PySem.W.keepIn K (.ref f100019) = true) (a100020 : PySem.W.findIn K (.ref C100004) "bad" = some (some (.ref f100020))) (i100020 : PySem.W.isFn K (.ref f100020) = true) (l100020 : K.lookup f100020 = some ⟨oc100020, od100020, .func (PySem.W.fnOf "bad" "Disks.bad" (defArgs (inClass (topS 7) 15)) (defBody (inClass (topS 7) 15)) (defScope (inClass (topS 7) 15)) .none kV100020 dc100020 pm100020 an100020 cd100020 ct100020), sl100020⟩) (c100020 : PySem.W.codeIn K cd100020 "Disks.bad" = true) (k100020 : PySem.W.keepIn K (.ref f100020) = true) (a100021 : PySem.W.findIn K (.ref C100004) "away" = some (some (.ref f100021))) (i100021 : PySem.W.isFn K (.ref f100021) = true) (l100021 : K.lookup f100021 = some ⟨oc100021, od100021, .func (PySem.W.fnOf "away" "Disks.away" (defArgs (inClass (topS 7) 16)) (defBody (inClass (topS 7) 16)) (defScope (inClass (topS 7) 16)) .none kV100021 dc100021 pm100021 an100021 cd100021 ct100021), sl100021⟩) (c100021 : PySem.W.codeIn K cd100021 "Disks.away" = true) (k100021 : PySem.W.keepIn K (.ref f100021) = true) (a100022 : PySem.W.findIn K (.ref C100004) "blank" = some (some (.ref f100022))) (i100022 : PySem.W.isFn K (.ref f100022) = true) (l100022 : K.lookup f100022 = some ⟨oc100022, od100022, .func (PySem.W.fnOf "blank" "Disks.blank" (defArgs (inClass (topS 7) 17)) (defBody (inClass (topS 7) 17)) (defScope (inClass (topS 7) 17)) .none kV100022 dc100022 pm100022 an100022 cd100022 ct100022), sl100022⟩) (c100022 : PySem.W.codeIn K cd100022 "Disks.blank" = true) (k100022 : PySem.W.keepIn K (.ref f100022) = true) (a100023 : PySem.W.findIn K (.ref C100004) "fail_after" = some (some (.ref f100023))) (i100023 : PySem.W.isFn K (.ref f100023) = true) (l100023 : K.lookup f100023 = some ⟨oc100023, od100023, .func (PySem.W.fnOf "fail_after" "Disks.fail_after" (defArgs (inClass (topS 7) 18)) (defBody (inClass (topS 7) 18)) (defScope (inClass (topS 7) 18)) .none kV100023 dc100023 pm100023 an100023 cd100023 ct100023), sl100023⟩) (c100023 : PySem.W.codeIn K cd100023 "Disks.fail_after" = true) (k100023 : PySem.W.keepIn K (.ref f100023) = true) (a100024 : PySem.W.findIn K (.ref C100004) "power" = some (some (.ref f100024))) (i100024 : PySem.W.isFn K (.ref f100024) = true) (l100024 : K.lookup f100024 = some ⟨oc100024, od100024, .func (PySem.W.fnOf "power" "Disks.power" (defArgs (inClass (topS 7) 19)) (defBody (inClass (topS 7) 19)) (defScope (inClass (topS 7) 19)) .none kV100024 dc100024 pm100024 an100024 cd100024 ct100024), sl100024⟩) (c100024 : PySem.W.codeIn K cd100024 "Disks.power" = true) (k100024 : PySem.W.keepIn K (.ref f100024) = true) (n100037 : PySem.W.findIn K (.ref C100004) "_fuse" = some none) (n100036 : PySem.W.findIn K (.ref C100004) "_losses" = some none) (n100035 : PySem.W.findIn K (.ref C100004) "_media" = some none) (n100034 : PySem.W.findIn K (.ref C100004) "_powered" = some none) (n100033 : PySem.W.findIn K (.ref C100004) "_reads" = some none) (n100032 : PySem.W.findIn K (.ref C100004) "_sizes" = some none) (n100031 : PySem.W.findIn K (.ref C100004) "_syncs" = some none) (n100030 : PySem.W.findIn K (.ref C100004) "_there" = some none) (n100029 : PySem.W.findIn K (.ref C100004) "_waiting" = some none) (n100028 : PySem.W.findIn K (.ref C100004) "_writes" = some none) (n100027 : PySem.W.findIn K (.ref C100004) "formatted" = some none) (n100026 : PySem.W.findIn K (.ref C100004) "in_use" = some none) (n100025 : PySem.W.findIn K (.ref C100004) "scrub_place" = some none) (eq100043 : PySem.W.subIn K (.ref C100002) (.ref C100002) = some true) (eq100042 : PySem.W.subIn K (.ref C100002) (.ref C100003) = some false) (eq100041 : PySem.W.subIn K (.ref C100003) (.ref C100002) = some false) (eq100040 : PySem.W.subIn K (.ref C100003) (.ref C100003) = some true) (eq100039 : PySem.W.subIn K (.ref C100001) (.ref C100002) = some false) (eq100038 : PySem.W.subIn K (.ref C100001) (.ref C100003) = some false) (hn100044 : PySem.W.specialIn K (.builtin "object.__class__") "__get__" = some (some (.builtin "getset_descriptor.__get__"))) (ht100044 : PySem.W.takesIn K (.builtin "object.__class__") = some true) (eg100045 : PySem.W.findIn K (.ref C100002) "__getattribute__" = some (some (.builtin "BaseException.__getattribute__"))) (ek100045 : PySem.W.findIn K (.ref C100002) "__getattr__" = some none) (ed100045 : PySem.W.hasDictIn K C100002 = true) (ea100045 : PySem.W.findIn K (.ref C100002) "__class__" = some (some (.builtin "object.__class__"))) (em100045 : PySem.W.mroIn K C100002 (.type "object") = some true) (eg100046 : PySem.W.findIn K (.ref C100003) "__getattribute__" = some (some (.builtin "BaseException.__getattribute__"))) (ek100046 : PySem.W.findIn K (.ref C100003) "__getattr__" = some none) (ed100046 : PySem.W.hasDictIn K C100003 = true) (ea100046 : PySem.W.findIn K (.ref C100003) "__class__" = some (some (.builtin "object.__class__"))) (em100046 : PySem.W.mroIn K C100003 (.type "object") = some true) (eg100047 : PySem.W.findIn K (.ref C100001) "__getattribute__" = some (some (.builtin "BaseException.__getattribute__"))) (ek100047 : PySem.W.findIn K (.ref C100001) "__getattr__" = some none) (ed100047 : PySem.W.hasDictIn K C100001 = true) (ea100047 : PySem.W.findIn K (.ref C100001) "__class__" = some (some (.builtin "object.__class__"))) (em100047 : PySem.W.mroIn K C100001 (.type "object") = some true) (es100048 : PySem.W.subIn K (.ref C100001) (.type "ValueError") = some true) (en100048 : PySem.W.nsIn K mainGlobals "ValueError" = some none) (es100049 : PySem.W.subIn K (.ref C100001) (.ref C100001) = some true) (es100050 : PySem.W.subIn K (.ref C100003) (.type "ValueError") = some true) (en100050 : PySem.W.nsIn K mainGlobals "ValueError" = some none) (es100051 : PySem.W.subIn K (.ref C100003) (.ref C100001) = some true) (es100052 : PySem.W.subIn K (.ref C100002) (.type "ValueError") = some true) (en100052 : PySem.W.nsIn K mainGlobals "ValueError" = some none) (es100053 : PySem.W.subIn K (.ref C100002) (.ref C100001) = some true) (q100054 : PySem.W.nsIn K mainGlobals "ValueError" = some none) (q100055 : PySem.W.nsIn K mainGlobals "bool" = some none) (q100056 : PySem.W.nsIn K mainGlobals "int" = some none) (q100057 : PySem.W.nsIn K mainGlobals "isinstance" = some none) (q100058 : PySem.W.nsIn K mainGlobals "len" = some none) (q100059 : PySem.W.nsIn K mainGlobals "list" = some none) (q100060 : PySem.W.nsIn K mainGlobals "min" = some none) (q100061 : PySem.W.nsIn K mainGlobals "range" = some none) (q100062 : PySem.W.nsIn K mainGlobals "reversed" = some none) (q100063 : PySem.W.nsIn K mainGlobals "tuple" = some none) (q100064 : PySem.W.nsIn K mainGlobals "zip" = some none) (a100065 : PySem.W.nsIn K mainGlobals "_wall" = some (some (.ref f100065))) (l100065 : K.lookup f100065 = some ⟨oc100065, od100065, .func (PySem.W.fnOf "_wall" "_wall" (defArgs (topS 0)) (defBody (topS 0)) (defScope (topS 0)) .none kV100065 dc100065 pm100065 an100065 cd100065 ct100065), sl100065⟩) (c100065 : PySem.W.codeIn K cd100065 "_wall" = true) (k100065 : PySem.W.keepIn K (.ref f100065) = true) (a100066 : PySem.W.nsIn K mainGlobals "is_between" = some (some (.ref f100066))) (l100066 : K.lookup f100066 = some ⟨oc100066, od100066, .func (PySem.W.fnOf "is_between" "is_between" (defArgs (topS 6)) (defBody (topS 6)) (defScope (topS 6)) .none kV100066 dc100066 pm100066 an100066 cd100066 ct100066), sl100066⟩) (c100066 : PySem.W.codeIn K cd100066 "is_between" = true) (k100066 : PySem.W.keepIn K (.ref f100066) = true) (a100067 : PySem.W.nsIn K mainGlobals "_law_draw" = some (some (.ref f100067))) (l100067 : K.lookup f100067 = some ⟨oc100067, od100067, .func (PySem.W.fnOf "_law_draw" "_law_draw" (defArgs (topS 9)) (defBody (topS 9)) (defScope (topS 9)) .none kV100067 dc100067 pm100067 an100067 cd100067 ct100067), sl100067⟩) (c100067 : PySem.W.codeIn K cd100067 "_law_draw" = true) (k100067 : PySem.W.keepIn K (.ref f100067) = true) (a100068 : PySem.W.nsIn K mainGlobals "_law_wrong" = some (some (.ref f100068))) (l100068 : K.lookup f100068 = some ⟨oc100068, od100068, .func (PySem.W.fnOf "_law_wrong" "_law_wrong" (defArgs (topS 10)) (defBody (topS 10)) (defScope (topS 10)) .none kV100068 dc100068 pm100068 an100068 cd100068 ct100068), sl100068⟩) (c100068 : PySem.W.codeIn K cd100068 "_law_wrong" = true) (k100068 : PySem.W.keepIn K (.ref f100068) = true) (a100069 : PySem.W.nsIn K mainGlobals "_law_dark" = some (some (.ref f100069))) (l100069 : K.lookup f100069 = some ⟨oc100069, od100069, .func (PySem.W.fnOf "_law_dark" "_law_dark" (defArgs (topS 11)) (defBody (topS 11)) (defScope (topS 11)) .none kV100069 dc100069 pm100069 an100069 cd100069 ct100069), sl100069⟩) (c100069 : PySem.W.codeIn K cd100069 "_law_dark" = true) (k100069 : PySem.W.keepIn K (.ref f100069) = true) (a100070 : PySem.W.nsIn K mainGlobals "_law_one" = some (some (.ref f100070))) (l100070 : K.lookup f100070 = some ⟨oc100070, od100070, .func (PySem.W.fnOf "_law_one" "_law_one" (defArgs (topS 12)) (defBody (topS 12)) (defScope (topS 12)) .none kV100070 dc100070 pm100070 an100070 cd100070 ct100070), sl100070⟩) (c100070 : PySem.W.codeIn K cd100070 "_law_one" = true) (k100070 : PySem.W.keepIn K (.ref f100070) = true) (a100071 : PySem.W.nsIn K mainGlobals "law" = some (some (.ref f100071))) (l100071 : K.lookup f100071 = some ⟨oc100071, od100071, .func (PySem.W.fnOf "law" "law" (defArgs (topS 13)) (defBody (topS 13)) (defScope (topS 13)) .none kV100071 dc100071 pm100071 an100071 cd100071 ct100071), sl100071⟩) (c100071 : PySem.W.codeIn K cd100071 "law" = true) (k100071 : PySem.W.keepIn K (.ref f100071) = true) : Txt K mg where
  x_RotError := ⟨_, _, _, _, _, PySem.F.excBase_ValueError, xe100001, PySem.W.mg_of X G aC100001, kc100001, sb100001, ty100001⟩
  x_InvalidArgument := ⟨_, _, _, _, _, PySem.F.excBase_ValueError, xe100002, PySem.W.mg_of X G aC100002, kc100002, sb100002, ty100002⟩
  x_PowerOff := ⟨_, _, _, _, _, PySem.F.excBase_ValueError, xe100003, PySem.W.mg_of X G aC100003, kc100003, sb100003, ty100003⟩
  mk_Disks := ⟨_, PySem.W.mg_of X G aC100004, mk100004, kc100004⟩
  Disks___init__ := ⟨_, _, _, PySem.W.mg_of X G aC100004, ⟨pg100004, hd100004, po100004, sa100004⟩, ⟨a100005, i100005, k100005⟩, fun_mk (st := (inClass (topS 7) 0)) l100005 c100005 k100005, (fun_mk (st := (inClass (topS 7) 0)) l100005 c100005 k100005).binds (ps := ["self", "disks", "sectors", "carrying", "depth"]) fun _ _ _ _ _ _ us hl => match us, hl with | [_, _, _, _, _], _ => rfl⟩
  Disks_sizes := ⟨_, _, _, PySem.W.mg_of X G aC100004, ⟨pg100004, hd100004, po100004, sa100004⟩, ⟨a100006, i100006, k100006⟩, fun_mk (st := (inClass (topS 7) 1)) l100006 c100006 k100006, (fun_mk (st := (inClass (topS 7) 1)) l100006 c100006 k100006).binds (ps := ["self"]) fun _ _ _ _ _ _ us hl => match us, hl with | [_], _ => rfl⟩
  Disks_counts := ⟨_, _, _, PySem.W.mg_of X G aC100004, ⟨pg100004, hd100004, po100004, sa100004⟩, ⟨a100007, i100007, k100007⟩, fun_mk (st := (inClass (topS 7) 2)) l100007 c100007 k100007, (fun_mk (st := (inClass (topS 7) 2)) l100007 c100007 k100007).binds (ps := ["self"]) fun _ _ _ _ _ _ us hl => match us, hl with | [_], _ => rfl⟩
  Disks_is_on := ⟨_, _, _, PySem.W.mg_of X G aC100004, ⟨pg100004, hd100004, po100004, sa100004⟩, ⟨a100008, i100008, k100008⟩, fun_mk (st := (inClass (topS 7) 3)) l100008 c100008 k100008, (fun_mk (st := (inClass (topS 7) 3)) l100008 c100008 k100008).binds (ps := ["self"]) fun _ _ _ _ _ _ us hl => match us, hl with | [_], _ => rfl⟩
  Disks_losses := ⟨_, _, _, PySem.W.mg_of X G aC100004, ⟨pg100004, hd100004, po100004, sa100004⟩, ⟨a100009, i100009, k100009⟩, fun_mk (st := (inClass (topS 7) 4)) l100009 c100009 k100009, (fun_mk (st := (inClass (topS 7) 4)) l100009 c100009 k100009).binds (ps := ["self"]) fun _ _ _ _ _ _ us hl => match us, hl with | [_], _ => rfl⟩
  Disks_is_there := ⟨_, _, _, PySem.W.mg_of X G aC100004, ⟨pg100004, hd100004, po100004, sa100004⟩, ⟨a100010, i100010, k100010⟩, fun_mk (st := (inClass (topS 7) 5)) l100010 c100010 k100010, (fun_mk (st := (inClass (topS 7) 5)) l100010 c100010 k100010).binds (ps := ["self", "disk"]) fun _ _ _ _ _ _ us hl => match us, hl with | [_, _], _ => rfl⟩
  Disks_cell := ⟨_, _, _, PySem.W.mg_of X G aC100004, ⟨pg100004, hd100004, po100004, sa100004⟩, ⟨a100011, i100011, k100011⟩, fun_mk (st := (inClass (topS 7) 6)) l100011 c100011 k100011, (fun_mk (st := (inClass (topS 7) 6)) l100011 c100011 k100011).binds (ps := ["self", "disk", "sector"]) fun _ _ _ _ _ _ us hl => match us, hl with | [_, _, _], _ => rfl⟩
  Disks_pending := ⟨_, _, _, PySem.W.mg_of X G aC100004, ⟨pg100004, hd100004, po100004, sa100004⟩, ⟨a100012, i100012, k100012⟩, fun_mk (st := (inClass (topS 7) 7)) l100012 c100012 k100012, (fun_mk (st := (inClass (topS 7) 7)) l100012 c100012 k100012).binds (ps := ["self", "disk"]) fun _ _ _ _ _ _ us hl => match us, hl with | [_, _], _ => rfl⟩
  Disks_ask := ⟨_, _, _, PySem.W.mg_of X G aC100004, ⟨pg100004, hd100004, po100004, sa100004⟩, ⟨a100013, i100013, k100013⟩, fun_mk (st := (inClass (topS 7) 8)) l100013 c100013 k100013, (fun_mk (st := (inClass (topS 7) 8)) l100013 c100013 k100013).binds (ps := ["self", "disk", "sector"]) fun _ _ _ _ _ _ us hl => match us, hl with | [_, _, _], _ => rfl⟩
  Disks__fail := ⟨_, _, _, PySem.W.mg_of X G aC100004, ⟨pg100004, hd100004, po100004, sa100004⟩, ⟨a100014, i100014, k100014⟩, fun_mk (st := (inClass (topS 7) 9)) l100014 c100014 k100014, (fun_mk (st := (inClass (topS 7) 9)) l100014 c100014 k100014).binds (ps := ["self"]) fun _ _ _ _ _ _ us hl => match us, hl with | [_], _ => rfl⟩
  Disks__operation := ⟨_, _, _, PySem.W.mg_of X G aC100004, ⟨pg100004, hd100004, po100004, sa100004⟩, ⟨a100015, i100015, k100015⟩, fun_mk (st := (inClass (topS 7) 10)) l100015 c100015 k100015, (fun_mk (st := (inClass (topS 7) 10)) l100015 c100015 k100015).binds (ps := ["self"]) fun _ _ _ _ _ _ us hl => match us, hl with | [_], _ => rfl⟩
  Disks__lay := ⟨_, _, _, PySem.W.mg_of X G aC100004, ⟨pg100004, hd100004, po100004, sa100004⟩, ⟨a100016, i100016, k100016⟩, fun_mk (st := (inClass (topS 7) 11)) l100016 c100016 k100016, (fun_mk (st := (inClass (topS 7) 11)) l100016 c100016 k100016).binds (ps := ["self", "disk", "kept"]) fun _ _ _ _ _ _ us hl => match us, hl with | [_, _, _], _ => rfl⟩
  Disks_write := ⟨_, _, _, PySem.W.mg_of X G aC100004, ⟨pg100004, hd100004, po100004, sa100004⟩, ⟨a100017, i100017, k100017⟩, fun_mk (st := (inClass (topS 7) 12)) l100017 c100017 k100017, (fun_mk (st := (inClass (topS 7) 12)) l100017 c100017 k100017).binds (ps := ["self", "disk", "sector", "data"]) fun _ _ _ _ _ _ us hl => match us, hl with | [_, _, _, _], _ => rfl⟩
  Disks_sync := ⟨_, _, _, PySem.W.mg_of X G aC100004, ⟨pg100004, hd100004, po100004, sa100004⟩, ⟨a100018, i100018, k100018⟩, fun_mk (st := (inClass (topS 7) 13)) l100018 c100018 k100018, (fun_mk (st := (inClass (topS 7) 13)) l100018 c100018 k100018).binds (ps := ["self"]) fun _ _ _ _ _ _ us hl => match us, hl with | [_], _ => rfl⟩
  Disks_rot := ⟨_, _, _, PySem.W.mg_of X G aC100004, ⟨pg100004, hd100004, po100004, sa100004⟩, ⟨a100019, i100019, k100019⟩, fun_mk (st := (inClass (topS 7) 14)) l100019 c100019 k100019, (fun_mk (st := (inClass (topS 7) 14)) l100019 c100019 k100019).binds (ps := ["self", "disk", "sector", "data"]) fun _ _ _ _ _ _ us hl => match us, hl with | [_, _, _, _], _ => rfl⟩
  Disks_bad := ⟨_, _, _, PySem.W.mg_of X G aC100004, ⟨pg100004, hd100004, po100004, sa100004⟩, ⟨a100020, i100020, k100020⟩, fun_mk (st := (inClass (topS 7) 15)) l100020 c100020 k100020, (fun_mk (st := (inClass (topS 7) 15)) l100020 c100020 k100020).binds (ps := ["self", "disk", "sector"]) fun _ _ _ _ _ _ us hl => match us, hl with | [_, _, _], _ => rfl⟩
  Disks_away := ⟨_, _, _, PySem.W.mg_of X G aC100004, ⟨pg100004, hd100004, po100004, sa100004⟩, ⟨a100021, i100021, k100021⟩, fun_mk (st := (inClass (topS 7) 16)) l100021 c100021 k100021, (fun_mk (st := (inClass (topS 7) 16)) l100021 c100021 k100021).binds (ps := ["self", "disk"]) fun _ _ _ _ _ _ us hl => match us, hl with | [_, _], _ => rfl⟩
  Disks_blank := ⟨_, _, _, PySem.W.mg_of X G aC100004, ⟨pg100004, hd100004, po100004, sa100004⟩, ⟨a100022, i100022, k100022⟩, fun_mk (st := (inClass (topS 7) 17)) l100022 c100022 k100022, (fun_mk (st := (inClass (topS 7) 17)) l100022 c100022 k100022).binds (ps := ["self", "disk"]) fun _ _ _ _ _ _ us hl => match us, hl with | [_, _], _ => rfl⟩
  Disks_fail_after := ⟨_, _, _, PySem.W.mg_of X G aC100004, ⟨pg100004, hd100004, po100004, sa100004⟩, ⟨a100023, i100023, k100023⟩, fun_mk (st := (inClass (topS 7) 18)) l100023 c100023 k100023, (fun_mk (st := (inClass (topS 7) 18)) l100023 c100023 k100023).binds (ps := ["self", "operations"]) fun _ _ _ _ _ _ us hl => match us, hl with | [_, _], _ => rfl⟩
  Disks_power := ⟨_, _, _, PySem.W.mg_of X G aC100004, ⟨pg100004, hd100004, po100004, sa100004⟩, ⟨a100024, i100024, k100024⟩, fun_mk (st := (inClass (topS 7) 19)) l100024 c100024 k100024, (fun_mk (st := (inClass (topS 7) 19)) l100024 c100024 k100024).binds (ps := ["self", "kept"]) fun _ _ _ _ _ _ us hl => match us, hl with | [_, _], _ => rfl⟩
  fl := Am.fldT_mk tabF (Am.fld_cons (PySem.W.mg_of X G aC100004) ⟨pg100004, hd100004, po100004, sa100004⟩ n100037 (Am.fld_cons (PySem.W.mg_of X G aC100004) ⟨pg100004, hd100004, po100004, sa100004⟩ n100036 (Am.fld_cons (PySem.W.mg_of X G aC100004) ⟨pg100004, hd100004, po100004, sa100004⟩ n100035 (Am.fld_cons (PySem.W.mg_of X G aC100004) ⟨pg100004, hd100004, po100004, sa100004⟩ n100034 (Am.fld_cons (PySem.W.mg_of X G aC100004) ⟨pg100004, hd100004, po100004, sa100004⟩ n100033 (Am.fld_cons (PySem.W.mg_of X G aC100004) ⟨pg100004, hd100004, po100004, sa100004⟩ n100032 (Am.fld_cons (PySem.W.mg_of X G aC100004) ⟨pg100004, hd100004, po100004, sa100004⟩ n100031 (Am.fld_cons (PySem.W.mg_of X G aC100004) ⟨pg100004, hd100004, po100004, sa100004⟩ n100030 (Am.fld_cons (PySem.W.mg_of X G aC100004) ⟨pg100004, hd100004, po100004, sa100004⟩ n100029 (Am.fld_cons (PySem.W.mg_of X G aC100004) ⟨pg100004, hd100004, po100004, sa100004⟩ n100028 (Am.fld_cons (PySem.W.mg_of X G aC100004) ⟨pg100004, hd100004, po100004, sa100004⟩ n100027 (Am.fld_cons (PySem.W.mg_of X G aC100004) ⟨pg100004, hd100004, po100004, sa100004⟩ n100026 (Am.fld_cons (PySem.W.mg_of X G aC100004) ⟨pg100004, hd100004, po100004, sa100004⟩ n100025 Am.fld_nil)))))))))))))
  em := Am.exm_mk tabE (Am.exm_cons (PySem.W.mg_of X G aC100002) (PySem.W.mg_of X G aC100002) (Am.exm_any sb100002 ic100002 ty100002 eq100043) (Am.exm_cons (PySem.W.mg_of X G aC100002) (PySem.W.mg_of X G aC100003) (Am.exm_any sb100003 ic100003 ty100003 eq100042) (Am.exm_cons (PySem.W.mg_of X G aC100003) (PySem.W.mg_of X G aC100002) (Am.exm_any sb100002 ic100002 ty100002 eq100041) (Am.exm_cons (PySem.W.mg_of X G aC100003) (PySem.W.mg_of X G aC100003) (Am.exm_any sb100003 ic100003 ty100003 eq100040) (Am.exm_cons (PySem.W.mg_of X G aC100001) (PySem.W.mg_of X G aC100002) (Am.exm_any sb100002 ic100002 ty100002 eq100039) (Am.exm_cons (PySem.W.mg_of X G aC100001) (PySem.W.mg_of X G aC100003) (Am.exm_any sb100003 ic100003 ty100003 eq100038) Am.exm_nil))))))
  ix := Am.isx_mk tabK (Am.isx_own (PySem.W.mg_of X G aC100002) ⟨eg100045, ek100045, sb100002, ed100045, ea100045, hn100044, ht100044, em100045⟩ (PySem.W.mg_of X G aC100001) (Am.kit_own ic100001 ty100001 es100053) (Am.isx_bi (PySem.W.mg_of X G aC100002) ⟨eg100045, ek100045, sb100002, ed100045, ea100045, hn100044, ht100044, em100045⟩ (PySem.W.mg_none_of X G en100052) Am.boot_ValueError (Am.kit_bi rfl es100052) (Am.isx_own (PySem.W.mg_of X G aC100003) ⟨eg100046, ek100046, sb100003, ed100046, ea100046, hn100044, ht100044, em100046⟩ (PySem.W.mg_of X G aC100001) (Am.kit_own ic100001 ty100001 es100051) (Am.isx_bi (PySem.W.mg_of X G aC100003) ⟨eg100046, ek100046, sb100003, ed100046, ea100046, hn100044, ht100044, em100046⟩ (PySem.W.mg_none_of X G en100050) Am.boot_ValueError (Am.kit_bi rfl es100050) (Am.isx_own (PySem.W.mg_of X G aC100001) ⟨eg100047, ek100047, sb100001, ed100047, ea100047, hn100044, ht100044, em100047⟩ (PySem.W.mg_of X G aC100001) (Am.kit_own ic100001 ty100001 es100049) (Am.isx_bi (PySem.W.mg_of X G aC100001) ⟨eg100047, ek100047, sb100001, ed100047, ea100047, hn100044, ht100044, em100047⟩ (PySem.W.mg_none_of X G en100048) Am.boot_ValueError (Am.kit_bi rfl es100048) Am.isx_nil))))))
  b_ValueError := PySem.W.mg_none_of X G q100054
  b_bool := PySem.W.mg_none_of X G q100055
  b_int := PySem.W.mg_none_of X G q100056
  b_isinstance := PySem.W.mg_none_of X G q100057
  b_len := PySem.W.mg_none_of X G q100058
  b_list := PySem.W.mg_none_of X G q100059
  b_min := PySem.W.mg_none_of X G q100060
  b_range := PySem.W.mg_none_of X G q100061
  b_reversed := PySem.W.mg_none_of X G q100062
  b_tuple := PySem.W.mg_none_of X G q100063
  b_zip := PySem.W.mg_none_of X G q100064
  _wall := ⟨_, _, PySem.W.mg_of X G a100065, fun_mk (st := (topS 0)) l100065 c100065 k100065, (fun_mk (st := (topS 0)) l100065 c100065 k100065).binds (ps := ["k"]) fun _ _ _ _ _ _ us hl => match us, hl with | [_], _ => rfl⟩
  is_between := ⟨_, _, PySem.W.mg_of X G a100066, fun_mk (st := (topS 6)) l100066 c100066 k100066, (fun_mk (st := (topS 6)) l100066 c100066 k100066).binds (ps := ["value", "least", "greatest"]) fun _ _ _ _ _ _ us hl => match us, hl with | [_, _, _], _ => rfl⟩
  _law_draw := ⟨_, _, PySem.W.mg_of X G a100067, fun_mk (st := (topS 9)) l100067 c100067 k100067, (fun_mk (st := (topS 9)) l100067 c100067 k100067).binds (ps := ["_law_script", "_law_k"]) fun _ _ _ _ _ _ us hl => match us, hl with | [_, _], _ => rfl⟩
  _law_wrong := ⟨_, _, PySem.W.mg_of X G a100068, fun_mk (st := (topS 10)) l100068 c100068 k100068, (fun_mk (st := (topS 10)) l100068 c100068 k100068).binds (ps := ["_law_number"]) fun _ _ _ _ _ _ us hl => match us, hl with | [_], _ => rfl⟩
  _law_dark := ⟨_, _, PySem.W.mg_of X G a100069, fun_mk (st := (topS 11)) l100069 c100069 k100069, (fun_mk (st := (topS 11)) l100069 c100069 k100069).binds (ps := ["_law_disks"]) fun _ _ _ _ _ _ us hl => match us, hl with | [_], _ => rfl⟩
  _law_one := ⟨_, _, PySem.W.mg_of X G a100070, fun_mk (st := (topS 12)) l100070 c100070 k100070, (fun_mk (st := (topS 12)) l100070 c100070 k100070).binds (ps := ["_law_disks", "_law_counts", "_law_number"]) fun _ _ _ _ _ _ us hl => match us, hl with | [_, _, _], _ => rfl⟩
  law := ⟨_, _, PySem.W.mg_of X G a100071, fun_mk (st := (topS 13)) l100071 c100071 k100071, (fun_mk (st := (topS 13)) l100071 c100071 k100071).binds (ps := ["_law_script"]) fun _ _ _ _ _ _ us hl => match us, hl with | [_], _ => rfl⟩
theorem law_mk {P : Program} {w : World} {K : PySem.W.Frag} {mg : Str → Option Value} {fa : Addr} (T : Txt K mg) (hfa : mg "law" = some (.ref fa)) :
    ∃ fd : FuncData, (∀ (s : Shared) (v : Value), BindsTo s fd ⟨[v], []⟩ [("_law_script", v)]) ∧ ∀ base : Heap, K.In base → base.Ns mainGlobals mg → FnOk P w K mg base (L2N.CX P w) 5 fa fd ["_law_script"] (spLaw K) := by
  refine Has.law (x := "law") (ps := ["_law_script"]) (fun base => has_lawL T) ?_ hfa
  obtain ⟨f, fd, g, F, _⟩ := T.law
  have lk := fun_look F
  obtain ⟨oc, od, kV, doc, pm, an, cdv, ct, osl, rfl, l, c⟩ := F.ex
  exact ⟨f, _, g, lk, fun s v => .of_eq rfl⟩
end Lw
open PySem PySem.W PyProof.Rows
set_option maxRecDepth 100000 in
set_option maxHeartbeats 0 in
theorem PySem.Challenge.cw_rotward_k02_operations_and_errors_holds : PySem.Challenge.rw_rotward_k02_operations_and_errors.Holds := by
  w_on; o_law; k_head; (case hw => w_witness2)
  k_fill
  refine L2.walk_of (l := PySem.Challenge.rw_rotward_k02_operations_and_errors) (n := 63) (k := 5) (x := "_law_script") (CX := fun w => L2N.CX (PySem.Challenge.rw_rotward_k02_operations_and_errors).prog w) (sp := fun w => Lw.spLaw _) rfl (by decide) rfl ⟨rfl, by decide, by decide⟩ (fun w h Y => PySem.W.kIn_of Y) ?F (fun _ _ a ns hl _ hS => ⟨a, ns, rfl, hS, hl, fun _ => rfl⟩) (fun _ _ _ _ _ ⟨_, _, _, _, _, _, _, _, _, _, _, _, h⟩ => h)
  case F =>
    intro w mg fa h KX G hmg
    refine Lw.law_mk ?T hmg
    refine' Lw.txt_mk KX G ?aC100001 ?xe100001 ?kc100001 ?sb100001 ?ty100001 ?ic100001 ?aC100002 ?xe100002 ?kc100002 ?sb100002 ?ty100002 ?ic100002 ?aC100003 ?xe100003 ?kc100003 ?sb100003 ?ty100003 ?ic100003 ?aC100004 ?pg100004 ?hd100004 ?po100004 ?sa100004 ?mk100004 ?kc100004 ?a100005 ?i100005 ?l100005 ?c100005 ?k100005 ?a100006 ?i100006 ?l100006 ?c100006 ?k100006 ?a100007 ?i100007 ?l100007 ?c100007 ?k100007 ?a100008 ?i100008 ?l100008 ?c100008 ?k100008 ?a100009 ?i100009 ?l100009 ?c100009 ?k100009 ?a100010 ?i100010 ?l100010 ?c100010 ?k100010 ?a100011 ?i100011 ?l100011 ?c100011 ?k100011 ?a100012 ?i100012 ?l100012 ?c100012 ?k100012 ?a100013 ?i100013 ?l100013 ?c100013 ?k100013 ?a100014 ?i100014 ?l100014 ?c100014 ?k100014 ?a100015 ?i100015 ?l100015 ?c100015 ?k100015 ?a100016 ?i100016 ?l100016 ?c100016 ?k100016 ?a100017 ?i100017 ?l100017 ?c100017 ?k100017 ?a100018 ?i100018 ?l100018 ?c100018 ?k100018 ?a100019 ?i100019 ?l100019 ?c100019 ?k100019 ?a100020 ?i100020 ?l100020 ?c100020 ?k100020 ?a100021 ?i100021 ?l100021 ?c100021 ?k100021 ?a100022 ?i100022 ?l100022 ?c100022 ?k100022 ?a100023 ?i100023 ?l100023 ?c100023 ?k100023 ?a100024 ?i100024 ?l100024 ?c100024 ?k100024 ?n100037 ?n100036 ?n100035 ?n100034 ?n100033 ?n100032 ?n100031 ?n100030 ?n100029 ?n100028 ?n100027 ?n100026 ?n100025 ?eq100043 ?eq100042 ?eq100041 ?eq100040 ?eq100039 ?eq100038 ?hn100044 ?ht100044 ?eg100045 ?ek100045 ?ed100045 ?ea100045 ?em100045 ?eg100046 ?ek100046 ?ed100046 ?ea100046 ?em100046 ?eg100047 ?ek100047 ?ed100047 ?ea100047 ?em100047 ?es100048 ?en100048 ?es100049 ?es100050 ?en100050 ?es100051 ?es100052 ?en100052 ?es100053 ?q100054 ?q100055 ?q100056 ?q100057 ?q100058 ?q100059 ?q100060 ?q100061 ?q100062 ?q100063 ?q100064 ?a100065 ?l100065 ?c100065 ?k100065 ?a100066 ?l100066 ?c100066 ?k100066 ?a100067 ?l100067 ?c100067 ?k100067 ?a100068 ?l100068 ?c100068 ?k100068 ?a100069 ?l100069 ?c100069 ?k100069 ?a100070 ?l100070 ?c100070 ?k100070 ?a100071 ?l100071 ?c100071 ?k100071
    (case aC100001 => k_is)
    (case xe100001 => k_exc)
    (case kc100001 => k_is)
    (case sb100001 => k_is)
    (case ty100001 => k_is)
    (case ic100001 => k_is)
    (case aC100002 => k_is)
    (case xe100002 => k_exc)
    (case kc100002 => k_is)
    (case sb100002 => k_is)
    (case ty100002 => k_is)
    (case ic100002 => k_is)
    (case aC100003 => k_is)
    (case xe100003 => k_exc)
    (case kc100003 => k_is)
    (case sb100003 => k_is)
    (case ty100003 => k_is)
    (case ic100003 => k_is)
    (case aC100004 => k_is)
    (case pg100004 => k_is)
    (case hd100004 => k_is)
    (case po100004 => k_is)
    (case sa100004 => k_is)
    (case mk100004 => k_is)
    (case kc100004 => k_is)
    (case a100005 => k_is)
    (case i100005 => k_is)
    (case l100005 => k_is)
    (case c100005 => k_is)
    (case k100005 => k_is)
    (case a100006 => k_is)
    (case i100006 => k_is)
    (case l100006 => k_is)
    (case c100006 => k_is)
    (case k100006 => k_is)
    (case a100007 => k_is)
    (case i100007 => k_is)
    (case l100007 => k_is)
    (case c100007 => k_is)
    (case k100007 => k_is)
    (case a100008 => k_is)
    (case i100008 => k_is)
    (case l100008 => k_is)
    (case c100008 => k_is)
    (case k100008 => k_is)
    (case a100009 => k_is)
    (case i100009 => k_is)
    (case l100009 => k_is)
    (case c100009 => k_is)
    (case k100009 => k_is)
    (case a100010 => k_is)
    (case i100010 => k_is)
    (case l100010 => k_is)
    (case c100010 => k_is)
    (case k100010 => k_is)
    (case a100011 => k_is)
    (case i100011 => k_is)
    (case l100011 => k_is)
    (case c100011 => k_is)
    (case k100011 => k_is)
    (case a100012 => k_is)
    (case i100012 => k_is)
    (case l100012 => k_is)
    (case c100012 => k_is)
    (case k100012 => k_is)
    (case a100013 => k_is)
    (case i100013 => k_is)
    (case l100013 => k_is)
    (case c100013 => k_is)
    (case k100013 => k_is)
    (case a100014 => k_is)
    (case i100014 => k_is)
    (case l100014 => k_is)
    (case c100014 => k_is)
    (case k100014 => k_is)
    (case a100015 => k_is)
    (case i100015 => k_is)
    (case l100015 => k_is)
    (case c100015 => k_is)
    (case k100015 => k_is)
    (case a100016 => k_is)
    (case i100016 => k_is)
    (case l100016 => k_is)
    (case c100016 => k_is)
    (case k100016 => k_is)
    (case a100017 => k_is)
    (case i100017 => k_is)
    (case l100017 => k_is)
    (case c100017 => k_is)
    (case k100017 => k_is)
    (case a100018 => k_is)
    (case i100018 => k_is)
    (case l100018 => k_is)
    (case c100018 => k_is)
    (case k100018 => k_is)
    (case a100019 => k_is)
    (case i100019 => k_is)
    (case l100019 => k_is)
    (case c100019 => k_is)
    (case k100019 => k_is)
    (case a100020 => k_is)
    (case i100020 => k_is)
    (case l100020 => k_is)
    (case c100020 => k_is)
    (case k100020 => k_is)
    (case a100021 => k_is)
    (case i100021 => k_is)
    (case l100021 => k_is)
    (case c100021 => k_is)
    (case k100021 => k_is)
    (case a100022 => k_is)
    (case i100022 => k_is)
    (case l100022 => k_is)
    (case c100022 => k_is)
    (case k100022 => k_is)
    (case a100023 => k_is)
    (case i100023 => k_is)
    (case l100023 => k_is)
    (case c100023 => k_is)
    (case k100023 => k_is)
    (case a100024 => k_is)
    (case i100024 => k_is)
    (case l100024 => k_is)
    (case c100024 => k_is)
    (case k100024 => k_is)
    (case n100037 => k_is)
    (case n100036 => k_is)
    (case n100035 => k_is)
    (case n100034 => k_is)
    (case n100033 => k_is)
    (case n100032 => k_is)
    (case n100031 => k_is)
    (case n100030 => k_is)
    (case n100029 => k_is)
    (case n100028 => k_is)
    (case n100027 => k_is)
    (case n100026 => k_is)
    (case n100025 => k_is)
    (case eq100043 => first | rfl | k_is)
    (case eq100042 => first | rfl | k_is)
    (case eq100041 => first | rfl | k_is)
    (case eq100040 => first | rfl | k_is)
    (case eq100039 => first | rfl | k_is)
    (case eq100038 => first | rfl | k_is)
    (case hn100044 => k_is)
    (case ht100044 => k_is)
    (case eg100045 => k_is)
    (case ek100045 => k_is)
    (case ed100045 => k_is)
    (case ea100045 => k_is)
    (case em100045 => k_is)
    (case eg100046 => k_is)
    (case ek100046 => k_is)
    (case ed100046 => k_is)
    (case ea100046 => k_is)
    (case em100046 => k_is)
    (case eg100047 => k_is)
    (case ek100047 => k_is)
    (case ed100047 => k_is)
    (case ea100047 => k_is)
    (case em100047 => k_is)
    (case es100048 => k_is)
    (case en100048 => k_is)
    (case es100049 => k_is)
    (case es100050 => k_is)
    (case en100050 => k_is)
    (case es100051 => k_is)
    (case es100052 => k_is)
    (case en100052 => k_is)
    (case es100053 => k_is)
    (case q100054 => k_is)
    (case q100055 => k_is)
    (case q100056 => k_is)
    (case q100057 => k_is)
    (case q100058 => k_is)
    (case q100059 => k_is)
    (case q100060 => k_is)
    (case q100061 => k_is)
    (case q100062 => k_is)
    (case q100063 => k_is)
    (case q100064 => k_is)
    (case a100065 => k_is)
    (case l100065 => k_is)
    (case c100065 => k_is)
    (case k100065 => k_is)
    (case a100066 => k_is)
    (case l100066 => k_is)
    (case c100066 => k_is)
    (case k100066 => k_is)
    (case a100067 => k_is)
    (case l100067 => k_is)
    (case c100067 => k_is)
    (case k100067 => k_is)
    (case a100068 => k_is)
    (case l100068 => k_is)
    (case c100068 => k_is)
    (case k100068 => k_is)
    (case a100069 => k_is)
    (case l100069 => k_is)
    (case c100069 => k_is)
    (case k100069 => k_is)
    (case a100070 => k_is)
    (case l100070 => k_is)
    (case c100070 => k_is)
    (case k100070 => k_is)
    (case a100071 => k_is)
    (case l100071 => k_is)
    (case c100071 => k_is)
    (case k100071 => k_is)
#print axioms PySem.Challenge.cw_rotward_k02_operations_and_errors_holds