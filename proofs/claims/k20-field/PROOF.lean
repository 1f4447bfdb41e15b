import PyProof.Rows.All
import Wide.All
import OpenK.AllK
import Wide.FinOn
import HandS.ForSpec
import HandS.ForMost
import HandS.IsInst
import HandS.Flow
import HandS.Wide
import HandS.Codes
import HandS.Evl
import PySem.Challenge.RW_rotward_k20_field_of_bytes
set_option Elab.async false
set_option linter.all false
set_option maxRecDepth 100000
set_option maxHeartbeats 4000000
/-! ### Core: what a def is worth by its name, calls by it, steps of readings -/
namespace Rw
open PySem PySem.Spec PyProof.Rows L2
/-- the module's name x stands for a def that keeps sp at level k -/
def Has (P : Program) (w : World) (K : PySem.W.Frag) (mg : Str → Option Value) (base : Heap) (CX : CXT) (k : Nat) (x : Str) (ps : List Str) (sp : Sp) : Prop :=
  ∃ (f : Addr) (fd : FuncData), mg x = some (.ref f) ∧ PySem.W.keepIn K (.ref f) = true ∧ Binds K fd ps [] ∧ (∃ oc od osl, K.lookup f = some ⟨oc, od, .func fd, osl⟩) ∧ FnOk P w K mg base CX k f fd ps sp
/-- the text's def as the top leaves it -/
def Def (K : PySem.W.Frag) (mg : Str → Option Value) (x qual : Str) (st : Stmt) (ps : List Str) : Prop :=
  ∃ (f : Addr) (fd : FuncData), mg x = some (.ref f) ∧ Fun K x qual st f fd ∧ Binds K fd ps []
theorem fun_look {K : PySem.W.Frag} {x qual : Str} {st : Stmt} {f : Addr} {fd : FuncData} (F : Fun K x qual st f fd) : ∃ oc od osl, K.lookup f = some ⟨oc, od, .func fd, osl⟩ := by
  obtain ⟨oc, od, _, _, _, _, _, _, osl, _, l, _⟩ := F.ex
  exact ⟨oc, od, osl, l⟩
section
variable {P : Program} {w : World} {K : PySem.W.Frag} {mg : Str → Option Value} {base : Heap} {CX : CXT} {k : Nat} {x qual : Str} {st : Stmt} {ps N : List Str} {sp : Sp}
theorem Def.has (D : Def K mg x qual st ps) (S : FnScope N ps (defScope st)) (len : ∀ vs H Q E, sp vs H Q E → vs.length = ps.length)
    (hbody : ∀ (f : Addr) (cdv : Value) (A : Around) (outer : List Env) (s : Shared) (H : Hp) (vs : List V) (Q : VK) (E : XK), Room k (A.deeper (envOfC qual (defScope st) s.heap.objs.size f cdv)) → sp vs H Q E →
      ∃ t, PSs (cxOf CX0 P w K mg base N qual (defScope st) f cdv A outer s H E).nox (defBody st) t ∧ t { nx := fun _ H' => Q .non H', rt := Q } (start N vs) H) : Has P w K mg base CX0 (k + 1) x ps sp := by
  obtain ⟨f, fd, g, F, b⟩ := D
  exact ⟨f, fd, g, F.kp, b, fun_look F, F.ok S len (hbody f)⟩
theorem Def.hasX (D : Def K mg x qual st ps) (S : FnScope N ps (defScope st)) (len : ∀ vs H Q E, sp vs H Q E → vs.length = ps.length)
    (hbody : ∀ (f : Addr) (cdv : Value) (A : Around) (outer : List Env) (s : Shared) (H : Hp) (vs : List V) (Q : VK) (E : XK), Room k (A.deeper (envOfC qual (defScope st) s.heap.objs.size f cdv)) → sp vs H Q E →
      ∃ t, PSs (cxOf (L2.CX P w) P w K mg base N qual (defScope st) f cdv A outer s H E) (defBody st) t ∧ t { nx := fun _ H' => Q .non H', rt := Q } (start N vs) H) : Has P w K mg base (L2.CX P w) (k + 1) x ps sp := by
  obtain ⟨f, fd, g, F, b⟩ := D
  exact ⟨f, fd, g, F.kp, b, fun_look F, F.okX S len (hbody f)⟩
/-- the law's own def, for walk_of -/
theorem Has.law {fa : Addr} (h : ∀ base, Has P w K mg base CX k x ps sp) (D : ∃ (f : Addr) (fd : FuncData), mg x = some (.ref f) ∧ (∃ oc od osl, K.lookup f = some ⟨oc, od, .func fd, osl⟩) ∧ ∀ (s : Shared) (v : Value), BindsTo s fd ⟨[v], []⟩ (ps.zip [v])) (hfa : mg x = some (.ref fa)) :
    ∃ fd : FuncData, (∀ (s : Shared) (v : Value), BindsTo s fd ⟨[v], []⟩ (ps.zip [v])) ∧ ∀ base : Heap, K.In base → base.Ns mainGlobals mg → FnOk P w K mg base CX k fa fd ps sp := by
  obtain ⟨f, fd, g, ⟨oc, od, osl, lk⟩, hb⟩ := D
  have e := hfa.symm.trans g
  cases e
  refine ⟨fd, hb, fun base _ _ => ?_⟩
  obtain ⟨f', fd', g', _, _, ⟨oc', od', osl', lk'⟩, ok⟩ := h base
  have e := g.symm.trans g'
  cases e
  rw [lk] at lk'
  cases lk'
  exact ok
/-- a def that is not called -/
theorem Def.never (D : Def K mg x qual st ps) : Has P w K mg base CX k x ps (fun _ _ _ _ => False) := by
  obtain ⟨f, fd, g, F, b⟩ := D
  exact ⟨f, fd, g, F.kp, b, fun_look F, ⟨fun _ _ _ _ h => h.elim, fun _ _ _ _ _ _ _ _ _ _ _ _ _ h => h.elim⟩⟩
theorem Has.mono {j : Nat} (h : Has P w K mg base CX j x ps sp) (l : j ≤ k) : Has P w K mg base CX k x ps sp := by
  obtain ⟨f, fd, g, kp, b, lk, F⟩ := h
  exact ⟨f, fd, g, kp, b, lk, F.mono l⟩
theorem Has.imp {sp' : Sp} (h : Has P w K mg base CX k x ps sp) (i : ∀ vs H Q E, sp' vs H Q E → sp vs H Q E) : Has P w K mg base CX k x ps sp' := by
  obtain ⟨f, fd, g, kp, b, lk, F⟩ := h
  exact ⟨f, fd, g, kp, b, lk, F.imp i⟩
end
section
variable {X : Cx} {CX : CXT} {k : Nat} {ps : List Str} {sp : Sp} {E : XK} {x : Str} {p pos : Pos} {e : Expr} {es : List Expr} {t : TA}
theorem pe_callH (h : Has X.prog X.w X.K X.mg X.base CX k x ps sp) (hr : Room k X.A) (hg : Gl X x) (hx : Passes CX X E) (ha : PA X (e :: es) t) (hdb : (x == ("__debug__" : Str)) = false := by decide)
    (he : starEach (e :: es) X.env = (false, eval e X.env) :: starEach es X.env := by rfl) (hpl : (backTo pos (starEach es X.env)).any (·.1) = false := by rfl) : PE X (.Call (.Name x p) (e :: es) [] pos) (tCall sp [] E t) := by
  obtain ⟨f, fd, g, kp, b, _, F⟩ := h
  exact pe_call F hr hg g kp b .nil hx ha hdb he hpl
theorem pe_callH0 (h : Has X.prog X.w X.K X.mg X.base CX k x ps sp) (hr : Room k X.A) (hg : Gl X x) (hx : Passes CX X E) (hdb : (x == ("__debug__" : Str)) = false := by decide) : PE X (.Call (.Name x p) [] [] pos) (tCall sp [] E tNil) := by
  obtain ⟨f, fd, g, kp, b, _, F⟩ := h
  exact pe_call0 F hr hg g kp b .nil hx hdb
end
/-- xs[i], for op= -/
theorem get_list {X : Cx} : PGet X (rIxL X.K) := by
  intro pins s σ H o i ov iv Q I ro ri h
  obtain ⟨p, xs, j, z, rfl, rfl, hq, he, q⟩ := h
  cases ro
  obtain ⟨t, rfl⟩ := ri
  obtain ⟨its, r, pl, hz⟩ := I.list hq
  obtain ⟨n, h1, h2, h3, h4, h5⟩ := atI_get he
  obtain ⟨w, ew, rw'⟩ := r.get h2
  have hl := r.length
  have hn := line63
  have fin : EP X pins σ Q w s := ⟨z, H, I, rw', q⟩
  by_cases h0 : 0 ≤ j
  · have hj : j.toNat = n := by
      rw [seqIndex_of h0 h5] at h1
      exact Option.some.inj h1
    exact wpAny_getItem_list pl.isList h0 (by omega) (by rw [hj]; simpa using ew) fin
  · have hj : (j + (its.toArray.size : Int)).toNat = n := by
      rw [seqIndex_neg (by omega) h4] at h1
      rw [List.size_toArray, ← hl]
      exact Option.some.inj h1
    exact wpAny_getItem_list_neg pl.isList (by omega) (by rw [List.size_toArray] <;> omega) (by omega) (by rw [hj]; simpa using ew) fin
end Rw
namespace Rw
open PySem PySem.Spec PyProof.Rows L2
/-- a module's constant -/
def Glob (mg : Str → Option Value) (x : Str) (v : V) : Prop := ∃ u, mg x = some u ∧ RelV v u
theorem pe_globE {X : Cx} {x : Str} {v : V} {pos : Pos} (hg : Gl X x) (h : Glob X.mg x v) (hd : (x == ("__debug__" : Str)) = false := by decide) : PE X (.Name x pos) (tC v) := by
  obtain ⟨u, hm, r⟩ := h
  exact pe_glob hg hm r hd
/-! ### whole numbers -/
theorem o_xorN {X : Cx} : OpR X (binaryOp .BitXor) (fun x y H Q => ∃ i j : Nat, x = .int i ∧ y = .int j ∧ Q (.int ((i ^^^ j : Nat) : Int)) H) := by
  intro pins s σ H x y v u Q I r1 r2 h
  obtain ⟨i, j, rfl, rfl, q⟩ := h
  refine op_xor pins s σ H _ _ v u Q I r1 r2 ⟨_, _, rfl, rfl, ?_⟩
  have e : Builtin.bitXor (i : Int) (j : Int) = ((i ^^^ j : Nat) : Int) := by
    rw [Bits.bitXor_pp (by omega) (by omega), Int.toNat_natCast, Int.toNat_natCast]
  show Q (V.int (Builtin.bitXor (i : Int) (j : Int))) H
  rw [e]
  exact q
theorem o_andN {X : Cx} : OpR X (binaryOp .BitAnd) (fun x y H Q => ∃ i j : Nat, x = .int i ∧ y = .int j ∧ Q (.int ((i &&& j : Nat) : Int)) H) := by
  intro pins s σ H x y v u Q I r1 r2 h
  obtain ⟨i, j, rfl, rfl, q⟩ := h
  refine op_and pins s σ H _ _ v u Q I r1 r2 ⟨_, _, rfl, rfl, ?_⟩
  have e : Builtin.bitAnd (i : Int) (j : Int) = ((i &&& j : Nat) : Int) := by
    rw [bitAnd_pp (by omega) (by omega), Int.toNat_natCast, Int.toNat_natCast]
  show Q (V.int (Builtin.bitAnd (i : Int) (j : Int))) H
  rw [e]
  exact q
/-! ### tests whose answer is known -/
section
variable {c : Prop} [Decidable c] {A B : Prop}
theorem ifY (hc : c) (h : A) : if decide c = true then A else B := by
  rw [decide_eq_true hc]
  exact iteT h
theorem ifN (hc : ¬ c) (h : B) : if decide c = true then A else B := by
  rw [decide_eq_false hc]
  exact iteF h
theorem ifNY (hc : ¬ c) (h : A) : if (!decide c) = true then A else B := by
  rw [decide_eq_false hc]
  exact iteT h
theorem ifNN (hc : c) (h : B) : if (!decide c) = true then A else B := by
  rw [decide_eq_true hc]
  exact iteF h
end
/-! ### heaps -/
theorem upd_id {H : Hp} {a : Addr} {o : HO} (h : H a = some o) : upd H a o = H := by
  funext b
  unfold upd
  by_cases e : b = a
  · rw [if_pos e, e, h]
  · rw [if_neg e]
/-- nothing but a is changed -/
def But (a : Addr) (H H' : Hp) : Prop := ∀ b, b ≠ a → H' b = H b
theorem But.refl (a : Addr) (H : Hp) : But a H H := fun _ _ => rfl
theorem But.upd {a : Addr} {H : Hp} {o : HO} : But a H (upd H a o) := fun _ h => upd_ne h
theorem But.trans {a : Addr} {H H1 H2 : Hp} (h : But a H H1) (h' : But a H1 H2) : But a H H2 := fun b n => (h' b n).trans (h b n)
/-- what stands apart from a stays -/
theorem But.same {a : Addr} {G H H' : Hp} (h : But a H H') (s : Same G H) (n : G a = none) : Same G H' := fun b o e => by
  rw [h b fun z => by rw [z, n] at e; cases e]
  exact s b o e
theorem Same.new {H : Hp} {p : Addr} {o : HO} (h : H p = none) : Same H (L2.upd H p o) := fun b x e => by
  rw [upd_ne (ne_of_none e h)]
  exact e
theorem Same.upd {G H : Hp} {p : Addr} {o : HO} (s : Same G H) (h : G p = none) : Same G (L2.upd H p o) := fun b x e => by
  rw [upd_ne (ne_of_none e h)]
  exact s b x e
/-- two lists of different content: writing the one keeps the other -/
theorem sq_upd {K : PySem.W.Frag} {H H' : Hp} {a b : Addr} {xs ys : List V} (h : SqL K H b xs) (ha : H a = some (.lst ys)) (n : xs ≠ ys) (k : But a H H') : SqL K H' b xs := by
  have ne : ∀ {u : HO}, H b = some u → (u = .lst xs ∨ ∃ o, u = .frz o (.lst xs)) → H' b = some u := fun {u} e z => by
    rw [k b fun q => by
      rw [q, ha] at e
      rcases z with z | ⟨o, z⟩
      · rw [z] at e
        exact n (by injection e with e; injection e with e; exact e.symm)
      · rw [z] at e
        cases e]
    exact e
  rcases h with (h | ⟨o, h⟩) | h
  · exact .inl (.inl (ne h (.inl rfl)))
  · exact .inl (.inr ⟨o, ne h (.inr ⟨o, rfl⟩)⟩)
  · exact .inr h
/-- a new object: the heap behind it as a letter (generalize g : upd H p _ = H1) -/
theorem new_at {H H' : Hp} {p : Addr} {o : HO} (hp : H p = none) (g : L2.upd H p o = H') : Same H H' ∧ H' p = some o ∧ But p H H' := by
  subst g
  exact ⟨Same.new hp, upd_same, But.upd⟩
/-- a written object -/
theorem mut_at {H H' : Hp} {p : Addr} {o : HO} (g : L2.upd H p o = H') : H' p = some o ∧ But p H H' := by
  subst g
  exact ⟨upd_same, But.upd⟩
/-! ### the state of the laws' draws: a list of its own; G: what stands still -/
def LS (K : PySem.W.Frag) (G H : Hp) (st : Addr) : Prop := G st = none ∧ Same G H ∧ ∃ (la : Addr) (L : List Int) (i h s : Nat), H st = some (.lst [.ref la, .int i, .int h, .int s]) ∧ SqL K G la (L.map V.int)
section
variable {K : PySem.W.Frag} {G H H' : Hp} {st a : Addr}
theorem LS.free (h : LS K G H st) : G st = none := h.1
theorem LS.base (h : LS K G H st) : Same G H := h.2.1
theorem LS.there (h : LS K G H st) : ∃ o, H st = some o := by
  obtain ⟨_, _, la, L, i, h, s, e, _⟩ := h
  exact ⟨_, e⟩
theorem LS.same (h : LS K G H st) (e : Same H H') : LS K G H' st := by
  obtain ⟨g, b, la, L, i, h, s, e1, e2⟩ := h
  exact ⟨g, b.trans e, la, L, i, h, s, e _ _ e1, e2⟩
theorem LS.ne (h : LS K G H st) (n : H a = none) : a ≠ st := fun z => by
  obtain ⟨o, e⟩ := h.there
  rw [← z, n] at e
  cases e
/-- another object is written -/
theorem LS.but (h : LS K G H st) (n1 : a ≠ st) (n2 : G a = none) (k : But a H H') : LS K G H' st := by
  obtain ⟨g, b, la, L, i, h, s, e1, e2⟩ := h
  exact ⟨g, k.same b n2, la, L, i, h, s, by rw [k st (Ne.symm n1)]; exact e1, e2⟩
end
/-- a draw's number lies below the limit; the state's list is written, nothing else -/
def spNext (K : PySem.W.Frag) : Sp := fun vs H Q _ => ∃ (st : Addr) (lim : Nat), vs = [.ref st, .int lim] ∧ ∃ G, LS K G H st ∧ 0 < lim ∧ lim < 1073741824 ∧
  ∀ (v : Nat) (H' : Hp), v < lim → LS K G H' st → But st H H' → Q (.int v) H'
end Rw
namespace Rw
open PySem PySem.Spec PyProof.Rows L2
/-! ### data -/
def flatD : PyData → Bool
  | .none => true
  | .bool _ => true
  | .int _ => true
  | .str x => PySem.PyData.canLay0 (.str x)
  | _ => false
/-- data of at most n lists and tuples one in another -/
def Shal : Nat → PyData → Prop
  | n + 1, .list ds => ds.length ≤ 1000000 ∧ ∀ d ∈ ds, Shal n d
  | n + 1, .tuple ds => ds.length ≤ 1000000 ∧ ∀ d ∈ ds, Shal n d
  | _, d => flatD d = true
theorem Shal.flat {d : PyData} (h : flatD d = true) : ∀ n, Shal n d
  | 0 => by unfold Shal; exact h
  | n + 1 => by
    cases d with
    | list ds => cases h
    | tuple ds => cases h
    | _ => unfold Shal; exact h
theorem Shal.up : ∀ {n : Nat} {d : PyData}, Shal n d → Shal (n + 1) d
  | 0, d, h => Shal.flat (by unfold Shal at h; exact h) 1
  | n + 1, d, h => by
    cases d with
    | list ds => unfold Shal at h ⊢; exact ⟨h.1, fun x hx => Shal.up (h.2 x hx)⟩
    | tuple ds => unfold Shal at h ⊢; exact ⟨h.1, fun x hx => Shal.up (h.2 x hx)⟩
    | _ => exact Shal.flat (by unfold Shal at h; exact h) _
theorem Shal.mono {n : Nat} {d : PyData} (h : Shal n d) : ∀ {m : Nat}, n ≤ m → Shal m d := by
  intro m l
  induction l with
  | refl => exact h
  | step _ ih => exact ih.up
theorem Shal.int (n : Nat) (i : Int) : Shal n (.int i) := Shal.flat rfl n
theorem Shal.none (n : Nat) : Shal n .none := Shal.flat rfl n
theorem Shal.bool (n : Nat) (b : Bool) : Shal n (.bool b) := Shal.flat rfl n
theorem Shal.list {n : Nat} {ds : List PyData} (hl : ds.length ≤ 1000000) (h : ∀ d ∈ ds, Shal n d) : Shal (n + 1) (.list ds) := by unfold Shal; exact ⟨hl, h⟩
theorem Shal.tuple {n : Nat} {ds : List PyData} (hl : ds.length ≤ 1000000) (h : ∀ d ∈ ds, Shal n d) : Shal (n + 1) (.tuple ds) := by unfold Shal; exact ⟨hl, h⟩
theorem shaped_flat {d : PyData} (h : flatD d = true) : SeqAt.shaped d = true := by
  cases d with
  | str x =>
    unfold SeqAt.shaped
    rw [show PyData.canLay0 (.str x) = true from h]
    rfl
  | none => rfl
  | bool b => rfl
  | int i => rfl
  | _ => cases h
theorem eqv_flat {d : PyData} (h : flatD d = true) : PyData.eqv d d = true := SeqAt.eqv_refl d (by
  cases d with
  | str x => exact h
  | none => rfl
  | bool b => rfl
  | int i => rfl
  | _ => cases h)
/-- the type of data -/
def tyD : PyData → String
  | .none => "NoneType"
  | .bool _ => "bool"
  | .int _ => "int"
  | .str _ => "str"
  | .list _ => "list"
  | .tuple _ => "tuple"
  | .dict _ => "dict"
section
variable {K : PySem.W.Frag} {H H' G : Hp} {v : V} {d : PyData}
theorem sq_tyL {a : Addr} {xs : List V} (h : SqL K H a xs) : TyX K H (.ref a) (.type "list") := by
  rcases h with (h | ⟨o, h⟩) | ⟨o, its, n, h, c, _⟩
  · exact .base (.lst h)
  · exact .base (.frz h)
  · exact .kList h c
theorem sq_tyT {a : Addr} {xs : List V} (h : SqT K H a xs) : TyX K H (.ref a) (.type "tuple") := by
  rcases h with (h | ⟨o, h⟩) | ⟨o, its, n, h, c, _⟩
  · exact .base (.tup h)
  · exact .fTuple h
  · exact .kTuple h c
theorem dp_ty (h : Dp K H v d) : TyX K H v (.type (tyD d)) := by
  cases h with
  | non => exact .base .non
  | bl b => exact .base (.bl b)
  | int i => exact .base (.int i)
  | str x => exact .base (.str x)
  | lst h _ => exact sq_tyL h
  | tup h _ => exact sq_tyT h
theorem dp_int {i j : Int} (e : i = j) : Dp K H (.int i) (.int j) := e ▸ .int i
theorem dp_list {ds : List PyData} (h : Dp K H v (.list ds)) : ∃ a xs, v = .ref a ∧ SqL K H a xs ∧ DpAll K H xs ds := by
  cases h with
  | lst h1 h2 => exact ⟨_, _, rfl, h1, h2⟩
theorem dp_tup {ds : List PyData} (h : Dp K H v (.tuple ds)) : ∃ a xs, v = .ref a ∧ SqT K H a xs ∧ DpAll K H xs ds := by
  cases h with
  | tup h1 h2 => exact ⟨_, _, rfl, h1, h2⟩
theorem same_seqT {a : Addr} {xs : List V} (e : Same H H') (h : SqT K H a xs) : SqT K H' a xs := by
  rcases h with (h | ⟨o, h⟩) | h
  · exact .inl (.inl (e _ _ h))
  · exact .inl (.inr ⟨o, e _ _ h⟩)
  · exact .inr h
mutual
theorem dp_same (e : Same H H') : ∀ (d : PyData) (v : V), Dp K H v d → Dp K H' v d
  | .none, _, h => by cases h; exact .non
  | .bool b, _, h => by cases h; exact .bl b
  | .int i, _, h => by cases h; exact .int i
  | .str x, _, h => by cases h; exact .str x
  | .list ds, _, h => by
    cases h with
    | lst h1 h2 => exact .lst (e.seq h1) (dpa_same e ds _ h2)
  | .tuple ds, _, h => by
    cases h with
    | tup h1 h2 => exact .tup (same_seqT e h1) (dpa_same e ds _ h2)
  | .dict _, _, h => by cases h
theorem dpa_same (e : Same H H') : ∀ (ds : List PyData) (vs : List V), DpAll K H vs ds → DpAll K H' vs ds
  | [], _, h => by cases h; exact .nil
  | d :: ds, _, h => by
    cases h with
    | cons h1 h2 => exact .cons (dp_same e d _ h1) (dpa_same e ds _ h2)
end
theorem dpa_len : ∀ {ds : List PyData} {vs : List V}, DpAll K H vs ds → vs.length = ds.length
  | [], _, h => by cases h; rfl
  | d :: ds, _, h => by
    cases h with
    | cons h1 h2 => rw [List.length_cons, List.length_cons, dpa_len h2]
theorem dpa_get : ∀ {ds : List PyData} {vs : List V}, DpAll K H vs ds → ∀ {i : Nat} {d : PyData}, ds[i]? = some d → ∃ v, vs[i]? = some v ∧ Dp K H v d
  | [], _, _, i, d, e => by simp at e
  | x :: ds, _, h, 0, d, e => by
    cases h with
    | cons h1 h2 =>
      have : x = d := Option.some.inj e
      subst this
      exact ⟨_, rfl, h1⟩
  | x :: ds, _, h, i + 1, d, e => by
    cases h with
    | cons h1 h2 => exact dpa_get h2 (i := i) (by simpa using e)
theorem dpa_ints : ∀ (ns : List Int), DpAll K H (ns.map V.int) (ns.map PyData.int)
  | [] => .nil
  | n :: ns => .cons (.int n) (dpa_ints ns)
theorem dpa_append : ∀ {ds es : List PyData} {vs ws : List V}, DpAll K H vs ds → DpAll K H ws es → DpAll K H (vs ++ ws) (ds ++ es)
  | [], es, _, ws, h, h' => by cases h; exact h'
  | d :: ds, es, _, ws, h, h' => by
    cases h with
    | cons h1 h2 => exact .cons h1 (dpa_append h2 h')
end
end Rw
local macro_rules | `(tactic| walk_at "side") => `(tactic| first
  | exact Or.inl ⟨by omega, by omega⟩ | exact Or.inr ⟨by omega, by omega⟩ | exact ⟨by omega, by omega⟩ | omega | (dsimp only; omega) | exact Nat.le_of_ble_eq_true rfl | decide)
local macro_rules | `(tactic| walk_at "sq") => `(tactic| first
  | assumption | exact L2.upd_same | exact L2.SqL.of (by assumption) | exact L2.SqT.of (by assumption) | exact L2.SqL.of L2.upd_same | exact L2.SqT.of L2.upd_same)
local macro_rules | `(tactic| walk_at "at") => `(tactic| first
  | rfl | exact L2.atI_nat (by assumption) | (refine L2.at_of ?_ (by assumption); omega))
local macro_rules | `(tactic| walk_at "size") => `(tactic| first
  | exact L2.small1000 (by omega) | (refine L2.small1000 ?_; (simp only [List.length_map, List.length_append, List.length_replicate, List.length_cons, List.length_nil, List.length_take, List.length_drop, List.length_range]); omega) | exact Nat.lt_of_ble_eq_true rfl)
local macro_rules | `(tactic| walk_at "go") => `(tactic| repeat (first
  | refine Exists.intro _ (And.intro rfl ?_)
  | refine Exists.intro _ (Exists.intro _ (And.intro rfl (And.intro rfl ?_)))
  | refine Exists.intro _ (Exists.intro _ (And.intro rfl ?_))
  | refine Exists.intro _ (Exists.intro _ (Exists.intro _ (And.intro rfl ?_)))
  | refine And.intro (Exists.intro _ (by walk_at "sq")) ?_
  | refine Exists.intro _ (Exists.intro _ (Exists.intro _ (Exists.intro _ (And.intro rfl (And.intro rfl (And.intro (by walk_at "sq") (And.intro (by walk_at "at") ?_)))))))
  | refine Or.inl (Exists.intro _ (Exists.intro _ (Exists.intro _ (Exists.intro _ (And.intro rfl (And.intro rfl (And.intro (by walk_at "sq") (And.intro (by walk_at "at") ?_))))))))
  | refine Or.inr (Or.inl (Exists.intro _ (Exists.intro _ (Exists.intro _ (Exists.intro _ (And.intro rfl (And.intro rfl (And.intro (by walk_at "sq") (And.intro (by walk_at "at") ?_)))))))))
  | refine Exists.intro _ (Exists.intro _ (And.intro rfl (And.intro (Or.inl (by walk_at "sq")) ?_)))
  | refine Exists.intro _ (Exists.intro _ (And.intro rfl (And.intro (Or.inr (by walk_at "sq")) ?_)))
  | refine Exists.intro _ (Exists.intro _ (And.intro rfl (And.intro (by assumption) ?_)))
  | refine Or.inl (Exists.intro _ (And.intro rfl ?_))
  | refine Exists.intro _ (And.intro (show Rw.LS _ _ _ _ by assumption) ?_)
  | refine ⟨_, _, _, _, _, rfl, .ty _, (by assumption), L2.kit_ty rfl, ?_⟩
  | refine Exists.intro _ (Exists.intro _ (Exists.intro _ (And.intro rfl (And.intro rfl (And.intro (by assumption) (And.intro (by walk_at "size") ?_))))))
  | refine And.intro (Or.inl ⟨rfl, _, by walk_at "sq"⟩) ?_
  | refine And.intro rfl ?_
  | refine And.intro (by walk_at "side") ?_))
local macro_rules | `(tactic| walk_at "br") => `(tactic| (dsimp only; refine L2.ite2 (fun h => ?_) (fun h => ?_) <;> simp only [Bool.not_eq_true', Bool.not_eq_true, Bool.not_true, Bool.not_false, decide_eq_false_iff_not, decide_eq_true_eq, Decidable.not_not, L2.V.int.injEq, L2.V.str.injEq, L2.V.bl.injEq, not_true_eq_false, not_false_eq_true, reduceCtorEq] at h))
/-! ### the field of bytes, as numbers -/
namespace Fld
def dbl (a : Nat) : Nat := if 2 * a < 256 then 2 * a else (2 * a) ^^^ 285
def mulL (a b t : Nat) : Nat := if h : b = 0 then t else mulL (dbl a) (b / 2) (if b % 2 = 1 then t ^^^ a else t)
termination_by b
decreasing_by omega
def mul (a b : Nat) : Nat := mulL a b 0
def invL : Nat → Nat → Nat → Nat
  | 0, _, r => r
  | n + 1, a, r => invL n (mul a a) (mul r (mul a a))
def inv (a : Nat) : Nat := invL 7 a 1
def t1 : Nat → Nat → Nat → Nat → Nat
  | 0, _, _, t => t
  | n + 1, a, b, t => t1 n (2 * a) (b / 2) (if b % 2 = 1 then t ^^^ a else t)
def t2 : Nat → Nat → Nat → Nat → Nat
  | 0, _, _, t => t
  | n + 1, p, q, t => t2 n (p / 2) (q / 2) (if p ≤ t then t ^^^ q else t)
def times (a b : Nat) : Nat := t2 8 32768 36480 (t1 8 a b 0)
/-- the same by eight turns -/
def m8 : Nat → Nat → Nat → Nat → Nat
  | 0, _, _, t => t
  | n + 1, a, b, t => m8 n (dbl a) (b / 2) (if b % 2 = 1 then t ^^^ a else t)
theorem m8_zero : ∀ (n a t : Nat), m8 n a 0 t = t
  | 0, _, _ => rfl
  | n + 1, a, t => by
    show m8 n (dbl a) (0 / 2) (if 0 % 2 = 1 then t ^^^ a else t) = t
    exact m8_zero n (dbl a) t
theorem mulL_m8 : ∀ (n a b t : Nat), b < 2 ^ n → mulL a b t = m8 n a b t
  | 0, a, b, t, h => by
    have e : b = 0 := by omega
    rw [mulL, dif_pos e]
    rfl
  | n + 1, a, b, t, h => by
    rw [mulL]
    by_cases e : b = 0
    · rw [dif_pos e, e, m8_zero]
    · rw [dif_neg e, mulL_m8 n _ _ _ (by rw [Nat.pow_succ] at h; omega)]
      rfl
theorem mul_m8 {a b : Nat} (h : b < 256) : mul a b = m8 8 a b 0 := mulL_m8 8 a b 0 h
/-! xor goes through -/
theorem dbl_lt {a : Nat} (h : a < 256) : dbl a < 256 := by
  have : ∀ a, a < 256 → dbl a < 256 := by decide +kernel
  exact this a h
theorem xor_lt {a b : Nat} (ha : a < 256) (hb : b < 256) : a ^^^ b < 256 := Nat.xor_lt_two_pow (n := 8) ha hb
/-- doubling as bits -/
theorem dbl_eq {a : Nat} (h : a < 256) : dbl a = (2 * a) ^^^ (if a.testBit 7 then 285 else 0) := by
  have : ∀ a, a < 256 → dbl a = (2 * a) ^^^ (if a.testBit 7 then 285 else 0) := by decide +kernel
  exact this a h
theorem two_xor (a b : Nat) : 2 * (a ^^^ b) = (2 * a) ^^^ (2 * b) := by
  have := Nat.shiftLeft_xor_distrib (a := a) (b := b) (i := 1)
  simpa [Nat.shiftLeft_eq, Nat.mul_comm] using this
theorem dbl_xor {a b : Nat} (ha : a < 256) (hb : b < 256) : dbl (a ^^^ b) = dbl a ^^^ dbl b := by
  rw [dbl_eq (xor_lt ha hb), dbl_eq ha, dbl_eq hb, two_xor, Nat.testBit_xor]
  have x4 : ∀ p q r s : Nat, (p ^^^ q) ^^^ (r ^^^ s) = (p ^^^ r) ^^^ (q ^^^ s) := fun p q r s => by
    rw [Nat.xor_assoc, Nat.xor_assoc, ← Nat.xor_assoc q r s, Nat.xor_comm q r, Nat.xor_assoc r q s]
  rw [x4]
  congr 1
  cases a.testBit 7 <;> cases b.testBit 7 <;> decide
theorem x4 (p q r s : Nat) : (p ^^^ q) ^^^ (r ^^^ s) = (p ^^^ r) ^^^ (q ^^^ s) := by
  rw [Nat.xor_assoc, Nat.xor_assoc, ← Nat.xor_assoc q r s, Nat.xor_comm q r, Nat.xor_assoc r q s]
/-- a turn's sum -/
theorem m8_acc : ∀ (n a b t : Nat), m8 n a b t = t ^^^ m8 n a b 0
  | 0, _, _, t => (Nat.xor_zero t).symm
  | n + 1, a, b, t => by
    show m8 n (dbl a) (b / 2) (if b % 2 = 1 then t ^^^ a else t) = t ^^^ m8 n (dbl a) (b / 2) (if b % 2 = 1 then 0 ^^^ a else 0)
    by_cases h : b % 2 = 1
    · rw [if_pos h, if_pos h, m8_acc n _ _ (t ^^^ a), m8_acc n _ _ (0 ^^^ a), Nat.zero_xor, Nat.xor_assoc]
    · rw [if_neg h, if_neg h, m8_acc n _ _ t]
theorem m8_xorL : ∀ (n a c b : Nat), a < 256 → c < 256 → m8 n (a ^^^ c) b 0 = m8 n a b 0 ^^^ m8 n c b 0
  | 0, _, _, _, _, _ => (Nat.xor_self 0).symm
  | n + 1, a, c, b, ha, hc => by
    show m8 n (dbl (a ^^^ c)) (b / 2) (if b % 2 = 1 then 0 ^^^ (a ^^^ c) else 0) = m8 n (dbl a) (b / 2) (if b % 2 = 1 then 0 ^^^ a else 0) ^^^ m8 n (dbl c) (b / 2) (if b % 2 = 1 then 0 ^^^ c else 0)
    rw [m8_acc n _ _ (if b % 2 = 1 then 0 ^^^ (a ^^^ c) else 0), m8_acc n (dbl a) _ (if b % 2 = 1 then 0 ^^^ a else 0), m8_acc n (dbl c) _ (if b % 2 = 1 then 0 ^^^ c else 0), dbl_xor ha hc, m8_xorL n _ _ _ (dbl_lt ha) (dbl_lt hc), x4]
    by_cases h : b % 2 = 1
    · rw [if_pos h, if_pos h, if_pos h, Nat.zero_xor, Nat.zero_xor, Nat.zero_xor]
    · rw [if_neg h, if_neg h, if_neg h]
      rfl
theorem xor_div2 (a b : Nat) : (a ^^^ b) / 2 = (a / 2) ^^^ (b / 2) := by
  have := Nat.shiftRight_xor_distrib (a := a) (b := b) (i := 1)
  simpa [Nat.shiftRight_eq_div_pow] using this
theorem xor_mod2 (a b : Nat) : (a ^^^ b) % 2 = (a % 2 + b % 2) % 2 := by
  have h := Nat.testBit_xor a b 0
  rw [Nat.testBit_zero, Nat.testBit_zero, Nat.testBit_zero] at h
  have h1 := Nat.mod_two_eq_zero_or_one a
  have h2 := Nat.mod_two_eq_zero_or_one b
  have h3 := Nat.mod_two_eq_zero_or_one (a ^^^ b)
  rcases h1 with h1 | h1 <;> rcases h2 with h2 | h2 <;> rcases h3 with h3 | h3 <;> simp [h1, h2, h3] at h ⊢
theorem m8_xorR : ∀ (n a b c : Nat), m8 n a (b ^^^ c) 0 = m8 n a b 0 ^^^ m8 n a c 0
  | 0, _, _, _ => (Nat.xor_self 0).symm
  | n + 1, a, b, c => by
    show m8 n (dbl a) ((b ^^^ c) / 2) (if (b ^^^ c) % 2 = 1 then 0 ^^^ a else 0) = m8 n (dbl a) (b / 2) (if b % 2 = 1 then 0 ^^^ a else 0) ^^^ m8 n (dbl a) (c / 2) (if c % 2 = 1 then 0 ^^^ a else 0)
    rw [m8_acc n _ _ (if (b ^^^ c) % 2 = 1 then 0 ^^^ a else 0), m8_acc n (dbl a) _ (if b % 2 = 1 then 0 ^^^ a else 0), m8_acc n (dbl a) _ (if c % 2 = 1 then 0 ^^^ a else 0), xor_div2, m8_xorR n, x4, xor_mod2]
    congr 1
    have h1 := Nat.mod_two_eq_zero_or_one b
    have h2 := Nat.mod_two_eq_zero_or_one c
    rcases h1 with h1 | h1 <;> rcases h2 with h2 | h2 <;> simp [h1, h2]
theorem mul_lt {a b : Nat} (ha : a < 256) (hb : b < 256) : mul a b < 256 := by
  rw [mul_m8 hb]
  have : ∀ (n a b t : Nat), a < 256 → t < 256 → m8 n a b t < 256 := by
    intro n
    induction n with
    | zero => exact fun _ _ _ _ h => h
    | succ n ih =>
      intro a b t h1 h2
      refine ih _ _ _ (dbl_lt h1) ?_
      by_cases h : b % 2 = 1
      · rw [if_pos h]; exact xor_lt h2 h1
      · rw [if_neg h]; exact h2
  exact this 8 a b 0 ha (by decide)
theorem mul_xorL {a c b : Nat} (ha : a < 256) (hc : c < 256) (hb : b < 256) : mul (a ^^^ c) b = mul a b ^^^ mul c b := by
  rw [mul_m8 hb, mul_m8 hb, mul_m8 hb]
  exact m8_xorL 8 a c b ha hc
theorem mul_xorR {a b c : Nat} (hb : b < 256) (hc : c < 256) : mul a (b ^^^ c) = mul a b ^^^ mul a c := by
  rw [mul_m8 hb, mul_m8 hc, mul_m8 (xor_lt hb hc)]
  exact m8_xorR 8 a b c
theorem mul_zero (a : Nat) : mul a 0 = 0 := by
  rw [mul_m8 (by decide)]
  exact m8_zero 8 a 0
theorem zero_mul {b : Nat} (hb : b < 256) : mul 0 b = 0 := by
  have := mul_xorL (a := 0) (c := 0) (b := b) (by decide) (by decide) hb
  rw [Nat.xor_self 0, Nat.xor_self (mul 0 b)] at this
  exact this
/-- what goes through xor and agrees at the eight bits agrees -/
theorem lin_ext {f g : Nat → Nat} (hf : ∀ x y, x < 256 → y < 256 → f (x ^^^ y) = f x ^^^ f y) (hg : ∀ x y, x < 256 → y < 256 → g (x ^^^ y) = g x ^^^ g y)
    (h : ∀ i, i < 8 → f (2 ^ i) = g (2 ^ i)) : ∀ x, x < 256 → f x = g x := by
  have z : ∀ {f : Nat → Nat}, (∀ x y, x < 256 → y < 256 → f (x ^^^ y) = f x ^^^ f y) → f 0 = 0 := fun {f} hf => by
    have := hf 0 0 (by decide) (by decide)
    rw [Nat.xor_self, Nat.xor_self] at this
    exact this
  have key : ∀ n, n ≤ 8 → ∀ x, x < 2 ^ n → f x = g x := by
    intro n
    induction n with
    | zero =>
      intro _ x hx
      have : x = 0 := by omega
      rw [this, z hf, z hg]
    | succ n ih =>
      intro hn x hx
      by_cases hlt : x < 2 ^ n
      · exact ih (by omega) x hlt
      · have p8 : (2 : Nat) ^ n ≤ 2 ^ 7 := Nat.pow_le_pow_right (by decide) (by omega)
        have e : x = 2 ^ n ^^^ (x - 2 ^ n) := by
          have h1 : x - 2 ^ n < 2 ^ n := by rw [Nat.pow_succ] at hx; omega
          have h2 := Nat.two_pow_add_eq_or_of_lt h1 1
          rw [Nat.mul_one] at h2
          have h3 : 2 ^ n ^^^ (x - 2 ^ n) = 2 ^ n ||| (x - 2 ^ n) := by
            apply Nat.eq_of_testBit_eq
            intro i
            rw [Nat.testBit_xor, Nat.testBit_or, Nat.testBit_two_pow]
            by_cases hi : n = i
            · subst hi
              rw [Nat.testBit_lt_two_pow h1]
              simp
            · simp [hi]
          rw [h3, ← h2]
          omega
        have l1 : x - 2 ^ n < 2 ^ n := by rw [Nat.pow_succ] at hx; omega
        rw [e, hf _ _ (by omega) (by omega), hg _ _ (by omega) (by omega), h n (by omega), ih (by omega) _ l1]
  exact fun x hx => key 8 (by decide) x hx
/-! the other reckoning: a product of polynomials, then its rest -/
theorem t1_acc : ∀ (n a b t : Nat), t1 n a b t = t ^^^ t1 n a b 0
  | 0, _, _, t => (Nat.xor_zero t).symm
  | n + 1, a, b, t => by
    show t1 n (2 * a) (b / 2) (if b % 2 = 1 then t ^^^ a else t) = t ^^^ t1 n (2 * a) (b / 2) (if b % 2 = 1 then 0 ^^^ a else 0)
    by_cases h : b % 2 = 1
    · rw [if_pos h, if_pos h, t1_acc n _ _ (t ^^^ a), t1_acc n _ _ (0 ^^^ a), Nat.zero_xor, Nat.xor_assoc]
    · rw [if_neg h, if_neg h, t1_acc n _ _ t]
theorem t1_xorL : ∀ (n a c b : Nat), t1 n (a ^^^ c) b 0 = t1 n a b 0 ^^^ t1 n c b 0
  | 0, _, _, _ => (Nat.xor_self 0).symm
  | n + 1, a, c, b => by
    show t1 n (2 * (a ^^^ c)) (b / 2) (if b % 2 = 1 then 0 ^^^ (a ^^^ c) else 0) = t1 n (2 * a) (b / 2) (if b % 2 = 1 then 0 ^^^ a else 0) ^^^ t1 n (2 * c) (b / 2) (if b % 2 = 1 then 0 ^^^ c else 0)
    rw [t1_acc n _ _ (if b % 2 = 1 then 0 ^^^ (a ^^^ c) else 0), t1_acc n (2 * a) _ (if b % 2 = 1 then 0 ^^^ a else 0), t1_acc n (2 * c) _ (if b % 2 = 1 then 0 ^^^ c else 0), two_xor, t1_xorL n, x4]
    by_cases h : b % 2 = 1
    · rw [if_pos h, if_pos h, if_pos h, Nat.zero_xor, Nat.zero_xor, Nat.zero_xor]
    · rw [if_neg h, if_neg h, if_neg h]
      rfl
theorem t1_xorR : ∀ (n a b c : Nat), t1 n a (b ^^^ c) 0 = t1 n a b 0 ^^^ t1 n a c 0
  | 0, _, _, _ => (Nat.xor_self 0).symm
  | n + 1, a, b, c => by
    show t1 n (2 * a) ((b ^^^ c) / 2) (if (b ^^^ c) % 2 = 1 then 0 ^^^ a else 0) = t1 n (2 * a) (b / 2) (if b % 2 = 1 then 0 ^^^ a else 0) ^^^ t1 n (2 * a) (c / 2) (if c % 2 = 1 then 0 ^^^ a else 0)
    rw [t1_acc n _ _ (if (b ^^^ c) % 2 = 1 then 0 ^^^ a else 0), t1_acc n (2 * a) _ (if b % 2 = 1 then 0 ^^^ a else 0), t1_acc n (2 * a) _ (if c % 2 = 1 then 0 ^^^ a else 0), xor_div2, t1_xorR n, x4, xor_mod2]
    congr 1
    have h1 := Nat.mod_two_eq_zero_or_one b
    have h2 := Nat.mod_two_eq_zero_or_one c
    rcases h1 with h1 | h1 <;> rcases h2 with h2 | h2 <;> simp [h1, h2]
theorem t1_lt : ∀ (n a b t m : Nat), a < 2 ^ m → t < 2 ^ (m + n) → t1 n a b t < 2 ^ (m + n)
  | 0, _, _, _, _, _, h => h
  | n + 1, a, b, t, m, ha, ht => by
    have e : m + (n + 1) = (m + 1) + n := by omega
    rw [e] at ht ⊢
    refine t1_lt n (2 * a) (b / 2) _ (m + 1) (by rw [Nat.pow_succ]; omega) ?_
    by_cases h : b % 2 = 1
    · rw [if_pos h]
      exact Nat.xor_lt_two_pow ht (Nat.lt_of_lt_of_le ha (Nat.pow_le_pow_right (by decide) (by omega)))
    · rw [if_neg h]
      exact ht
/-- the rest's turn, by bits -/
theorem turn_bit {m t q : Nat} (ht : t < 2 ^ (m + 1)) : (if 2 ^ m ≤ t then t ^^^ q else t) = t ^^^ (if t.testBit m then q else 0) := by
  by_cases h : 2 ^ m ≤ t
  · have : t.testBit m = true := by
      rw [Nat.testBit_eq_decide_div_mod_eq]
      have : t / 2 ^ m = 1 := by
        apply Nat.div_eq_of_lt_le
        · omega
        · rw [Nat.pow_succ] at ht; omega
      rw [this]
      rfl
    rw [if_pos h, this, if_pos rfl]
  · rw [if_neg h, Nat.testBit_lt_two_pow (by omega), if_neg (by decide), Nat.xor_zero]
theorem turn_lt {m t q : Nat} (ht : t < 2 ^ (m + 1)) (hq : 2 ^ m ≤ q) (hq2 : q < 2 ^ (m + 1)) : (if 2 ^ m ≤ t then t ^^^ q else t) < 2 ^ m := by
  by_cases h : 2 ^ m ≤ t
  · rw [if_pos h]
    have b1 : t.testBit m = true := by
      rw [Nat.testBit_eq_decide_div_mod_eq, show t / 2 ^ m = 1 by
        apply Nat.div_eq_of_lt_le
        · omega
        · rw [Nat.pow_succ] at ht; omega]
      rfl
    have b2 : q.testBit m = true := by
      rw [Nat.testBit_eq_decide_div_mod_eq, show q / 2 ^ m = 1 by
        apply Nat.div_eq_of_lt_le
        · omega
        · rw [Nat.pow_succ] at hq2; omega]
      rfl
    apply Nat.lt_pow_two_of_testBit
    intro i hi
    rw [Nat.testBit_xor]
    by_cases e : i = m
    · rw [e, b1, b2]; rfl
    · rw [Nat.testBit_lt_two_pow (Nat.lt_of_lt_of_le ht (Nat.pow_le_pow_right (by decide) (by omega))), Nat.testBit_lt_two_pow (Nat.lt_of_lt_of_le hq2 (Nat.pow_le_pow_right (by decide) (by omega)))]
      rfl
  · rw [if_neg h]
    omega
theorem ite_xor (a b : Bool) (q : Nat) : (if (a ^^ b) = true then q else 0) = (if a = true then q else 0) ^^^ (if b = true then q else 0) := by
  cases a <;> cases b <;> simp
theorem t2_xor : ∀ (n m q : Nat), (∀ i, i < n → 2 ^ (m - i) ≤ q / 2 ^ i ∧ q / 2 ^ i < 2 ^ (m - i + 1)) → n ≤ m + 1 → ∀ x y, x < 2 ^ (m + 1) → y < 2 ^ (m + 1) → t2 n (2 ^ m) q (x ^^^ y) = t2 n (2 ^ m) q x ^^^ t2 n (2 ^ m) q y
  | 0, _, _, _, _, _, _, _, _ => rfl
  | n + 1, m, q, hq, hn, x, y, hx, hy => by
    show t2 n (2 ^ m / 2) (q / 2) (if 2 ^ m ≤ x ^^^ y then (x ^^^ y) ^^^ q else x ^^^ y) = t2 n (2 ^ m / 2) (q / 2) (if 2 ^ m ≤ x then x ^^^ q else x) ^^^ t2 n (2 ^ m / 2) (q / 2) (if 2 ^ m ≤ y then y ^^^ q else y)
    have hxy : x ^^^ y < 2 ^ (m + 1) := Nat.xor_lt_two_pow hx hy
    obtain ⟨q1, q2⟩ := hq 0 (by omega)
    rw [Nat.sub_zero, Nat.pow_zero, Nat.div_one] at q1 q2
    have l1 := turn_lt hx q1 q2
    have l2 := turn_lt hy q1 q2
    have e : (if 2 ^ m ≤ x ^^^ y then (x ^^^ y) ^^^ q else x ^^^ y) = (if 2 ^ m ≤ x then x ^^^ q else x) ^^^ (if 2 ^ m ≤ y then y ^^^ q else y) := by
      rw [turn_bit hxy, turn_bit hx, turn_bit hy, Nat.testBit_xor, x4, ite_xor]
    rw [e]
    cases m with
    | zero =>
      have hn0 : n = 0 := by omega
      subst hn0
      rfl
    | succ m =>
      have e2 : 2 ^ (m + 1) / 2 = 2 ^ m := by rw [Nat.pow_succ]; omega
      rw [e2]
      refine t2_xor n m (q / 2) (fun i hi => ?_) (by omega) _ _ l1 l2
      have h := hq (i + 1) (by omega)
      rw [Nat.div_div_eq_div_mul, ← Nat.pow_succ', show m - i = m + 1 - (i + 1) by omega]
      exact h
theorem times_aux : ∀ i, i < 8 → 2 ^ (15 - i) ≤ 36480 / 2 ^ i ∧ 36480 / 2 ^ i < 2 ^ (15 - i + 1) := by decide
theorem times_xorL {a c b : Nat} (ha : a < 256) (hc : c < 256) : times (a ^^^ c) b = times a b ^^^ times c b := by
  unfold times
  rw [t1_xorL]
  exact t2_xor 8 15 36480 times_aux (by decide) _ _ (t1_lt 8 a b 0 8 ha (by decide)) (t1_lt 8 c b 0 8 hc (by decide))
theorem times_xorR {a b c : Nat} (ha : a < 256) : times a (b ^^^ c) = times a b ^^^ times a c := by
  unfold times
  rw [t1_xorR]
  exact t2_xor 8 15 36480 times_aux (by decide) _ _ (t1_lt 8 a b 0 8 ha (by decide)) (t1_lt 8 a c 0 8 ha (by decide))
theorem times_mul {a b : Nat} (ha : a < 256) (hb : b < 256) : times a b = mul a b := by
  have bits : ∀ i, i < 8 → ∀ j, j < 8 → times (2 ^ i) (2 ^ j) = m8 8 (2 ^ i) (2 ^ j) 0 := by decide +kernel
  have h2 : ∀ i, i < 8 → ∀ y, y < 256 → times (2 ^ i) y = mul (2 ^ i) y := fun i hi => by
    have p : 2 ^ i < 256 := Nat.lt_of_le_of_lt (Nat.pow_le_pow_right (by decide) (show i ≤ 7 by omega)) (by decide)
    refine lin_ext (f := times (2 ^ i)) (g := mul (2 ^ i)) (fun x y hx hy => times_xorR p) (fun x y hx hy => mul_xorR hx hy) fun j hj => ?_
    have p2 : 2 ^ j < 256 := Nat.lt_of_le_of_lt (Nat.pow_le_pow_right (by decide) (show j ≤ 7 by omega)) (by decide)
    rw [bits i hi j hj, mul_m8 p2]
  exact lin_ext (f := fun x => times x b) (g := fun x => mul x b) (fun x y hx hy => times_xorL hx hy) (fun x y hx hy => mul_xorL hx hy hb) (fun i hi => h2 i hi b hb) a ha
theorem mul_comm {a b : Nat} (ha : a < 256) (hb : b < 256) : mul a b = mul b a := by
  have bits : ∀ i, i < 8 → ∀ j, j < 8 → m8 8 (2 ^ i) (2 ^ j) 0 = m8 8 (2 ^ j) (2 ^ i) 0 := by decide +kernel
  have pw : ∀ {i : Nat}, i < 8 → 2 ^ i < 256 := fun {i} hi => Nat.lt_of_le_of_lt (Nat.pow_le_pow_right (by decide) (show i ≤ 7 by omega)) (by decide)
  have h2 : ∀ i, i < 8 → ∀ y, y < 256 → mul (2 ^ i) y = mul y (2 ^ i) := fun i hi => by
    refine lin_ext (f := mul (2 ^ i)) (g := fun y => mul y (2 ^ i)) (fun x y hx hy => mul_xorR hx hy) (fun x y hx hy => mul_xorL hx hy (pw hi)) fun j hj => ?_
    rw [mul_m8 (pw hj), mul_m8 (pw hi)]
    exact bits i hi j hj
  exact lin_ext (f := fun x => mul x b) (g := fun x => mul b x) (fun x y hx hy => mul_xorL hx hy hb) (fun x y hx hy => mul_xorR hx hy) (fun i hi => h2 i hi b hb) a ha
theorem mul_assoc {a b c : Nat} (ha : a < 256) (hb : b < 256) (hc : c < 256) : mul a (mul b c) = mul (mul a b) c := by
  have bits : ∀ i, i < 8 → ∀ j, j < 8 → ∀ k, k < 8 → m8 8 (2 ^ i) (m8 8 (2 ^ j) (2 ^ k) 0) 0 = m8 8 (m8 8 (2 ^ i) (2 ^ j) 0) (2 ^ k) 0 := by decide +kernel
  have pw : ∀ {i : Nat}, i < 8 → 2 ^ i < 256 := fun {i} hi => Nat.lt_of_le_of_lt (Nat.pow_le_pow_right (by decide) (show i ≤ 7 by omega)) (by decide)
  have h3 : ∀ i, i < 8 → ∀ j, j < 8 → ∀ z, z < 256 → mul (2 ^ i) (mul (2 ^ j) z) = mul (mul (2 ^ i) (2 ^ j)) z := fun i hi j hj => by
    refine lin_ext (f := fun z => mul (2 ^ i) (mul (2 ^ j) z)) (g := fun z => mul (mul (2 ^ i) (2 ^ j)) z) (fun x y hx hy => ?_) (fun x y hx hy => mul_xorR hx hy) fun k hk => ?_
    · show mul (2 ^ i) (mul (2 ^ j) (x ^^^ y)) = mul (2 ^ i) (mul (2 ^ j) x) ^^^ mul (2 ^ i) (mul (2 ^ j) y)
      rw [mul_xorR hx hy, mul_xorR (mul_lt (pw hj) hx) (mul_lt (pw hj) hy)]
    · have b := bits i hi j hj k hk
      show mul (2 ^ i) (mul (2 ^ j) (2 ^ k)) = mul (mul (2 ^ i) (2 ^ j)) (2 ^ k)
      rw [mul_m8 (mul_lt (pw hj) (pw hk)), mul_m8 (pw hk), mul_m8 (pw hk), mul_m8 (pw hj)]
      exact b
  have h2 : ∀ i, i < 8 → ∀ y, y < 256 → mul (2 ^ i) (mul y c) = mul (mul (2 ^ i) y) c := fun i hi => by
    refine lin_ext (f := fun y => mul (2 ^ i) (mul y c)) (g := fun y => mul (mul (2 ^ i) y) c) (fun x y hx hy => ?_) (fun x y hx hy => ?_) fun j hj => h3 i hi j hj c hc
    · show mul (2 ^ i) (mul (x ^^^ y) c) = mul (2 ^ i) (mul x c) ^^^ mul (2 ^ i) (mul y c)
      rw [mul_xorL hx hy hc, mul_xorR (mul_lt hx hc) (mul_lt hy hc)]
    · show mul (mul (2 ^ i) (x ^^^ y)) c = mul (mul (2 ^ i) x) c ^^^ mul (mul (2 ^ i) y) c
      rw [mul_xorR hx hy, mul_xorL (mul_lt (pw hi) hx) (mul_lt (pw hi) hy) hc]
  exact lin_ext (f := fun x => mul x (mul b c)) (g := fun x => mul (mul x b) c) (fun x y hx hy => mul_xorL hx hy (mul_lt hb hc)) (fun x y hx hy => by
    show mul (mul (x ^^^ y) b) c = mul (mul x b) c ^^^ mul (mul y b) c
    rw [mul_xorL hx hy hb, mul_xorL (mul_lt hx hb) (mul_lt hy hb) hc]) (fun i hi => h2 i hi b hb) a ha
theorem one_mul {a : Nat} (ha : a < 256) : mul 1 a = a := by
  rw [mul_m8 ha]
  have : ∀ a, a < 256 → m8 8 1 a 0 = a := by decide +kernel
  exact this a ha
theorem mul_one {a : Nat} (ha : a < 256) : mul a 1 = a := by rw [mul_comm ha (by decide), one_mul ha]
theorem dbl_mul {a : Nat} (ha : a < 256) : dbl a = mul a 2 := by
  rw [mul_m8 (by decide)]
  have : ∀ a, a < 256 → dbl a = m8 8 a 2 0 := by decide +kernel
  exact this a ha
def invL8 : Nat → Nat → Nat → Nat
  | 0, _, r => r
  | n + 1, a, r => invL8 n (m8 8 a a 0) (m8 8 r (m8 8 a a 0) 0)
theorem invL_8 : ∀ (n a r : Nat), a < 256 → invL n a r = invL8 n a r
  | 0, _, _, _ => rfl
  | n + 1, a, r, ha => by
    show invL n (mul a a) (mul r (mul a a)) = invL8 n (m8 8 a a 0) (m8 8 r (m8 8 a a 0) 0)
    rw [mul_m8 (mul_lt ha ha), invL_8 n _ _ (mul_lt ha ha), mul_m8 ha]
theorem inv_facts : ∀ a, a < 256 → a ≠ 0 → invL8 7 a 1 < 256 ∧ m8 8 a (invL8 7 a 1) 0 = 1 := by decide +kernel
theorem inv_lt {a : Nat} (ha : a < 256) (h0 : a ≠ 0) : inv a < 256 := by
  unfold inv
  rw [invL_8 7 a 1 ha]
  exact (inv_facts a ha h0).1
theorem mul_inv {a : Nat} (ha : a < 256) (h0 : a ≠ 0) : mul a (inv a) = 1 := by
  have e : inv a = invL8 7 a 1 := invL_8 7 a 1 ha
  rw [mul_m8 (inv_lt ha h0), e]
  exact (inv_facts a ha h0).2
end Fld
namespace Lw
open PySem PySem.Spec PyProof.Rows L2 Rw Fld
section
variable {P : Program} {w : World} {K : PySem.W.Frag} {mg : Str → Option Value} {base : Heap}
def topS (i : Nat) : Stmt := PySem.Challenge.pw_rotward_k20_field_of_bytes.main.body.getD i (.Pass ⟨0, 0, 0, 0⟩)
structure Txt (K : PySem.W.Frag) (mg : Str → Option Value) : Prop where
  b_bool : mg "bool" = none
  b_int : mg "int" = none
  b_isinstance : mg "isinstance" = none
  b_len : mg "len" = none
  b_list : mg "list" = none
  b_range : mg "range" = none
  b_str : mg "str" = none
  b_tuple : mg "tuple" = none
  c_BITS : Glob mg "BITS" (.int 8)
  c_BYTES : Glob mg "BYTES" (.int 256)
  c_OVERFLOW : Glob mg "OVERFLOW" (.int 285)
  double : Def K mg "double" "double" (topS 4) ["a"]
  product : Def K mg "product" "product" (topS 5) ["a", "b"]
  inverse : Def K mg "inverse" "inverse" (topS 6) ["a"]
  _law_next : Def K mg "_law_next" "_law_next" (topS 8) ["_law_state", "_law_limit"]
  _law_same : Def K mg "_law_same" "_law_same" (topS 9) ["_law_actual", "_law_expected"]
  _law_times : Def K mg "_law_times" "_law_times" (topS 10) ["_law_a", "_law_b"]
  _law_asks : Def K mg "_law_asks" "_law_asks" (topS 11) ["_law_a", "_law_b", "_law_c"]
  law : Def K mg "law" "law" (topS 12) ["_law_script"]
theorem sc_double : FnScope ["a"] ["a"] (defScope (topS 4)) := ⟨rfl, rfl, rfl, by decide +kernel, rfl, by decide +kernel, by decide +kernel⟩
theorem sc_product : FnScope ["a", "b", "total"] ["a", "b"] (defScope (topS 5)) := ⟨rfl, rfl, rfl, by decide +kernel, rfl, by decide +kernel, by decide +kernel⟩
theorem sc_inverse : FnScope ["a", "result", "_"] ["a"] (defScope (topS 6)) := ⟨rfl, rfl, rfl, by decide +kernel, rfl, by decide +kernel, by decide +kernel⟩
theorem sc__law_next : FnScope ["_law_state", "_law_limit", "_law_cell", "_law_value"] ["_law_state", "_law_limit"] (defScope (topS 8)) := ⟨rfl, rfl, rfl, by decide +kernel, rfl, by decide +kernel, by decide +kernel⟩
theorem sc__law_same : FnScope ["_law_actual", "_law_expected", "_law_k"] ["_law_actual", "_law_expected"] (defScope (topS 9)) := ⟨rfl, rfl, rfl, by decide +kernel, rfl, by decide +kernel, by decide +kernel⟩
theorem sc__law_times : FnScope ["_law_a", "_law_b", "_law_total", "_law_k", "_law_bound", "_law_taken"] ["_law_a", "_law_b"] (defScope (topS 10)) := ⟨rfl, rfl, rfl, by decide +kernel, rfl, by decide +kernel, by decide +kernel⟩
theorem sc__law_asks : FnScope ["_law_a", "_law_b", "_law_c", "_law_other"] ["_law_a", "_law_b", "_law_c"] (defScope (topS 11)) := ⟨rfl, rfl, rfl, by decide +kernel, rfl, by decide +kernel, by decide +kernel⟩
theorem sc_law : FnScope ["_law_script", "_law_state", "_law_drawn", "_law_k", "_law_a", "_law_b"] ["_law_script"] (defScope (topS 12)) := ⟨rfl, rfl, rfl, by decide +kernel, rfl, by decide +kernel, by decide +kernel⟩
end
end Lw
namespace Lw
open PySem PySem.Spec PyProof.Rows L2 Rw Fld
section
variable {P : Program} {w : World} {K : PySem.W.Frag} {mg : Str → Option Value} {base : Heap}
theorem st_upd {H : Hp} {st la : Addr} {x : HO} {a b c : Int} {i h s : Nat} (ha : a = i) (hb : b = h) (hc : c = s) :
    upd (upd H st x) st (.lst [.ref la, .int a, .int b, .int c]) = upd H st (.lst [.ref la, .int i, .int h, .int s]) := by rw [upd_upd, ha, hb, hc]
theorem has__law_next (T : Txt K mg) : Has P w K mg base CX0 1 "_law_next" ["_law_state", "_law_limit"] (spNext K) := by
  refine T._law_next.has sc__law_next (by rintro _ _ _ _ ⟨_, _, rfl, _⟩; rfl) (fun f cdv A outer s H vs Q E hr h => ?_)
  obtain ⟨st, lim, rfl, G, ⟨hg, hG, la, L, i, hh, sd, hst, hla0⟩, h0, h1, q'⟩ := h
  have hla := hG.seq hla0
  have q : ∀ (v i' h' s' : Nat), v < lim → Q (.int v) (upd H st (.lst [.ref la, .int i', .int h', .int s'])) := fun v i' h' s' l =>
    q' v _ l ⟨hg, Same.upd hG hg, la, L, i', h', s', upd_same, hla0⟩ But.upd
  refine ⟨_, (Evl.pss_cut (ps_if (PW.pt (pw_and (pt_cmpR op_eq (pe_ix ix_list (pv 0) pe_int (fun _ _ => rfl)) pe_int (nomark _)) (pw_and1 (pt_cmpR op_lt (pe_ix ix_list (pv 0) pe_int (fun _ _ => rfl)) (pe_callB call_len_seq (by rfl) T.b_len PySem.boot_len (pa_cons (pe_ix ix_list (pv 0) pe_int (fun _ _ => rfl)) pa_nil)) (nomark _)))))
  (pss_cons (ps_set (i := 2) sc__law_next.nd rfl (by first | exact Or.inl rfl | exact Or.inr rfl) (pe_ix ix_list (pe_ix ix_list (pv 0) pe_int (fun _ _ => rfl)) (pe_ix ix_list (pv 0) pe_int (fun _ _ => rfl)) (fun _ _ => rfl)))
  (pss_cons (ps_augS (pv 0) pe_int get_list pe_int ip_add set_list)
  (pss_one (ps_if (pt_cmpR op_ge (pv 2) (pe_op op_pow pe_int pe_int) (nomark _))
  (pss_one (ps_asg (pv 2) (pg_sub (pv 0) pe_int set_list)))
  (pss_one (ps_asg (pe_op op_mod (pe_callTy call_int1 (by rfl) T.b_int boot_int (pa_cons (pe_op op_add (pe_op op_add (pe_op op_mul (pe_ix ix_list (pv 0) pe_int (fun _ _ => rfl)) pe_int) (pe_op op_mod (pe_callTy call_int1 (by rfl) T.b_int boot_int (pa_cons (pv 2) pa_nil)) pe_int)) pe_int) pa_nil)) pe_int) (pg_sub (pv 0) pe_int set_list)))))))
  pss_nil)
  (pss_cons (ps_if (pt_cmpR op_gt (pe_ix ix_list (pv 0) pe_int (fun _ _ => rfl)) pe_int (nomark _))
  (pss_cons (ps_set (i := 3) sc__law_next.nd rfl (by first | exact Or.inl rfl | exact Or.inr rfl) (pe_op op_mod (pe_callTy call_int1 (by rfl) T.b_int boot_int (pa_cons (pe_ix ix_list (pv 0) pe_int (fun _ _ => rfl)) pa_nil)) (pv 1)))
  (pss_cons (ps_asg (pe_op op_fdiv (pe_ix ix_list (pv 0) pe_int (fun _ _ => rfl)) (pv 1)) (pg_sub (pv 0) pe_int set_list))
  (pss_one (ps_ret (pv 3)))))
  pss_nil)
  (pss_cons (ps_asg (pe_op op_mod (pe_callTy call_int1 (by rfl) T.b_int boot_int (pa_cons (pe_op op_add (pe_op op_mul (pe_ix ix_list (pv 0) pe_int (fun _ _ => rfl)) pe_int) pe_int) pa_nil)) pe_int) (pg_sub (pv 0) pe_int set_list))
  (pss_one (ps_ret (pe_op op_mod (pe_callTy call_int1 (by rfl) T.b_int boot_int (pa_cons (pe_op op_fdiv (pe_ix ix_list (pv 0) pe_int (fun _ _ => rfl)) pe_int) pa_nil)) (pv 1))))))), ?_⟩
  refine ⟨fun σ' H' => ∃ (y2 y3 : Option V) (i' h' s' : Nat), σ' = [some (.ref st), some (.int lim), y2, y3] ∧ H' = upd H st (.lst [.ref la, .int i', .int h', .int s']), ?_, ?_⟩
  · walk_at "go"
    walk_at "br"
    · walk_at "go"
      walk_at "br"
      · rename_i h2
        rw [List.length_map] at h2
        refine ⟨_, rfl, _, _, _, _, rfl, rfl, SqL.of hst, rfl, _, rfl, _, _, _, _, rfl, rfl, SqL.of hst, rfl, la, _, _, .int (L[i]'(by omega)), rfl, rfl, hla, atI_nat (by rw [List.getElem?_map, List.getElem?_eq_getElem (by omega)]; rfl), ?_⟩
        walk_at "go"
        walk_at "br"
        · rename_i h3
          have h4 : (10 : Int) ^ Int.toNat 18 = 1000000000000000000 := by decide
          walk_at "go"
          exact ⟨_, _, i + 1, (L[i]'(by omega)).toNat, sd, rfl, st_upd rfl (by omega) rfl⟩
        · walk_at "go"
          refine ⟨_, _, i + 1, hh, ((sd * 48271 + (L[i]'(by omega)) % 2147483647 + 7) % 2147483647 : Int).toNat, rfl, st_upd rfl rfl ?_⟩
          omega
      · exact ⟨_, _, i, hh, sd, rfl, by rw [upd_id hst]⟩
    · exact ⟨_, _, i, hh, sd, rfl, by rw [upd_id hst]⟩
  · rintro σ' H' ⟨y2, y3, i', h', s', rfl, rfl⟩
    walk_at "go"
    walk_at "br"
    · walk_at "go"
      rw [upd_upd]
      exact q (h' % lim) i' (h' / lim) s' (Nat.mod_lt _ h0)
    · walk_at "go"
      rw [upd_upd]
      exact q ((s' * 69621 + 12345) % 2147483647 / 7 % lim) i' h' ((s' * 69621 + 12345) % 2147483647) (Nat.mod_lt _ h0)
end
end Lw
namespace Lw
open PySem PySem.Spec PyProof.Rows L2 Rw Fld
section
variable {P : Program} {w : World} {K : PySem.W.Frag} {mg : Str → Option Value} {base : Heap}
/-- the law's comparison: data against the same data gives True -/
def spSame (K : PySem.W.Frag) (n : Nat) : Sp := fun vs H Q _ => ∃ (a b : V) (d : PyData), vs = [a, b] ∧ Dp K H a d ∧ Dp K H b d ∧ Shal n d ∧ Q (.bl true) H
theorem has__law_same (T : Txt K mg) : ∀ n : Nat, Has P w K mg base CX0 (n + 1) "_law_same" ["_law_actual", "_law_expected"] (spSame K n) := by
  intro n
  have key : ∀ n, (n = 0 ∨ ∃ m, n = m + 1 ∧ Has P w K mg base CX0 (m + 1) "_law_same" ["_law_actual", "_law_expected"] (spSame K m)) → Has P w K mg base CX0 (n + 1) "_law_same" ["_law_actual", "_law_expected"] (spSame K n) := by
    intro n ih
    obtain ⟨j, hj, h__law_same⟩ : ∃ j, j ≤ n ∧ Has P w K mg base CX0 j "_law_same" ["_law_actual", "_law_expected"] (fun vs H Q E => ∃ m, n = m + 1 ∧ spSame K m vs H Q E) := by
      rcases ih with rfl | ⟨m, rfl, h⟩
      · exact ⟨0, Nat.le_refl _, T._law_same.never.imp fun vs H Q E ⟨m', e, q⟩ => by cases e⟩
      · exact ⟨m + 1, Nat.le_refl _, h.imp fun vs H Q E ⟨m', e, q⟩ => by
          have : m = m' := by omega
          subst this
          exact q⟩
    refine T._law_same.has sc__law_same (by rintro _ _ _ _ ⟨_, _, _, rfl, _⟩; rfl) (fun f cdv A outer s H vs Q E hr h => ?_)
    obtain ⟨a, b, d, rfl, ha, hb, hd, q⟩ := h
    refine ⟨_, (pss_cons (ps_if (pt_cmpR op_isN (pv 1) pe_non (nomark _))
  (pss_one (ps_ret (pe_cmpR op_isN (pv 0) pe_non (nomark _))))
  pss_nil)
  (pss_cons (ps_if (pt_val (pe_callB call_isi (by rfl) T.b_isinstance (by decide +kernel) (pa_cons (pv 1) (pa_cons (pe_bltn (v := .ty "bool") (by rfl) T.b_bool (by decide +kernel) rfl) pa_nil))))
  (pss_one (ps_ret (pe_and (pe_callB call_isi (by rfl) T.b_isinstance (by decide +kernel) (pa_cons (pv 0) (pa_cons (pe_bltn (v := .ty "bool") (by rfl) T.b_bool (by decide +kernel) rfl) pa_nil))) (pe_one (pe_cmpR (op_eqD hr.units) (pv 0) (pv 1) (nomark _))))))
  pss_nil)
  (pss_cons (ps_if (pt_val (pe_callB call_isi (by rfl) T.b_isinstance (by decide +kernel) (pa_cons (pv 1) (pa_cons (pe_bltn (v := .ty "int") (by rfl) T.b_int (by decide +kernel) rfl) pa_nil))))
  (pss_one (ps_ret (pe_and (pe_callB call_isi (by rfl) T.b_isinstance (by decide +kernel) (pa_cons (pv 0) (pa_cons (pe_bltn (v := .ty "int") (by rfl) T.b_int (by decide +kernel) rfl) pa_nil))) (pe_and (pe_not (pe_callB call_isi (by rfl) T.b_isinstance (by decide +kernel) (pa_cons (pv 0) (pa_cons (pe_bltn (v := .ty "bool") (by rfl) T.b_bool (by decide +kernel) rfl) pa_nil)))) (pe_one (pe_cmpR (op_eqD hr.units) (pv 0) (pv 1) (nomark _)))))))
  pss_nil)
  (pss_cons (ps_if (pt_val (pe_callB call_isi (by rfl) T.b_isinstance (by decide +kernel) (pa_cons (pv 1) (pa_cons (pe_bltn (v := .ty "str") (by rfl) T.b_str (by decide +kernel) rfl) pa_nil))))
  (pss_one (ps_ret (pe_and (pe_callB call_isi (by rfl) T.b_isinstance (by decide +kernel) (pa_cons (pv 0) (pa_cons (pe_bltn (v := .ty "str") (by rfl) T.b_str (by decide +kernel) rfl) pa_nil))) (pe_one (pe_cmpR (op_eqD hr.units) (pv 0) (pv 1) (nomark _))))))
  pss_nil)
  (pss_cons (ps_if (PW.pt (pw_and (pt_val (pe_callB call_isi (by rfl) T.b_isinstance (by decide +kernel) (pa_cons (pv 1) (pa_cons (pe_bltn (v := .ty "tuple") (by rfl) T.b_tuple (by decide +kernel) rfl) pa_nil)))) (pw_and1 (pt_not (pt_val (pe_callB call_isi (by rfl) T.b_isinstance (by decide +kernel) (pa_cons (pv 0) (pa_cons (pe_bltn (v := .ty "tuple") (by rfl) T.b_tuple (by decide +kernel) rfl) pa_nil))))))))
  (pss_one (ps_ret pe_bl))
  pss_nil)
  (pss_cons (ps_if (PW.pt (pw_and (pt_val (pe_callB call_isi (by rfl) T.b_isinstance (by decide +kernel) (pa_cons (pv 1) (pa_cons (pe_bltn (v := .ty "list") (by rfl) T.b_list (by decide +kernel) rfl) pa_nil)))) (pw_and1 (pt_not (pt_val (pe_callB call_isi (by rfl) T.b_isinstance (by decide +kernel) (pa_cons (pv 0) (pa_cons (pe_bltn (v := .ty "list") (by rfl) T.b_list (by decide +kernel) rfl) pa_nil))))))))
  (pss_one (ps_ret pe_bl))
  pss_nil)
  (pss_cons (ps_if (pt_cmpR op_ne (pe_callB call_len (by rfl) T.b_len PySem.boot_len (pa_cons (pv 0) pa_nil)) (pe_callB call_len (by rfl) T.b_len PySem.boot_len (pa_cons (pv 1) pa_nil)) (nomark _))
  (pss_one (ps_ret pe_bl))
  pss_nil)
  (pss_cons (ps_for PassesOwn.never rfl (pi_range1 (by rfl) T.b_range (pa_cons (pe_callB call_len (by rfl) T.b_len PySem.boot_len (pa_cons (pv 1) pa_nil)) pa_nil)) (pg_name (i := 2) sc__law_same.nd rfl (by first | exact Or.inl rfl | exact Or.inr rfl))
  (pss_one (ps_if (pt_not (pt_val (pe_callH h__law_same (hr.mono (by first | decide | omega)) (by rfl) pass0 (pa_cons (pe_ix ix_seq (pv 0) (pv 2) (fun _ _ => rfl)) (pa_cons (pe_ix ix_seq (pv 1) (pv 2) (fun _ _ => rfl)) pa_nil)))))
  (pss_one (ps_ret pe_bl))
  pss_nil)))
  (pss_one (ps_ret pe_bl)))))))))), ?_⟩
    have ta := dp_ty ha
    have tb := dp_ty hb
    cases d with
    | none =>
      cases hb
      cases ha
      walk_at "go"
      exact q
    | int i =>
      cases hb
      cases ha
      walk_at "go"
      exact ⟨_, _, .int i, .int i, rfl, rfl, by rw [eqv_flat rfl]; exact q⟩
    | bool i =>
      cases hb
      cases ha
      walk_at "go"
      exact ⟨_, _, .bl i, .bl i, rfl, rfl, by rw [eqv_flat rfl]; exact q⟩
    | str x =>
      cases hb
      cases ha
      have hx : flatD (.str x) = true := by
        cases n <;> exact hd
      walk_at "go"
      exact ⟨_, _, .str x, .str x, shaped_flat hx, shaped_flat hx, by rw [eqv_flat hx]; exact q⟩
    | dict kvs => cases hb
    | list ds =>
      obtain ⟨a1, xs1, rfl, ha1, ha2⟩ := dp_list ha
      obtain ⟨a2, xs2, rfl, hb1, hb2⟩ := dp_list hb
      have la : LenV K (.ref a1) H ds.length := .inl ⟨_, ha1, (dpa_len ha2).symm⟩
      have lb : LenV K (.ref a2) H ds.length := .inl ⟨_, hb1, (dpa_len hb2).symm⟩
      obtain ⟨m, rfl⟩ : ∃ m, n = m + 1 := by
        cases n with
        | zero => cases hd
        | succ m => exact ⟨m, rfl⟩
      obtain ⟨hd1, hd2⟩ := hd
      walk_at "go"
      walk_at "br"
      walk_at "go"
      refine for_range (lo := 0) (n := ds.length) (fun i σ H' => ∃ y : Option V, σ = [some (.ref a1), some (.ref a2), y] ∧ H' = H) ⟨none, rfl, rfl⟩ ?_ ?_
      · rintro i σ H' hi ⟨y, rfl, rfl⟩
        obtain ⟨v1, e1, d1⟩ := dpa_get ha2 (List.getElem?_eq_getElem hi)
        obtain ⟨v2, e2, d2⟩ := dpa_get hb2 (List.getElem?_eq_getElem hi)
        walk_at "go"
        exact ⟨v1, v2, _, rfl, d1, d2, hd2 _ (List.getElem_mem hi), true, rfl, iteF ⟨_, rfl, rfl⟩⟩
      · rintro σ H' ⟨y, rfl, rfl⟩
        exact q
    | tuple ds =>
      obtain ⟨a1, xs1, rfl, ha1, ha2⟩ := dp_tup ha
      obtain ⟨a2, xs2, rfl, hb1, hb2⟩ := dp_tup hb
      have la : LenV K (.ref a1) H ds.length := .inr ⟨_, ha1, (dpa_len ha2).symm⟩
      have lb : LenV K (.ref a2) H ds.length := .inr ⟨_, hb1, (dpa_len hb2).symm⟩
      obtain ⟨m, rfl⟩ : ∃ m, n = m + 1 := by
        cases n with
        | zero => cases hd
        | succ m => exact ⟨m, rfl⟩
      obtain ⟨hd1, hd2⟩ := hd
      walk_at "go"
      walk_at "br"
      walk_at "go"
      refine for_range (lo := 0) (n := ds.length) (fun i σ H' => ∃ y : Option V, σ = [some (.ref a1), some (.ref a2), y] ∧ H' = H) ⟨none, rfl, rfl⟩ ?_ ?_
      · rintro i σ H' hi ⟨y, rfl, rfl⟩
        obtain ⟨v1, e1, d1⟩ := dpa_get ha2 (List.getElem?_eq_getElem hi)
        obtain ⟨v2, e2, d2⟩ := dpa_get hb2 (List.getElem?_eq_getElem hi)
        walk_at "go"
        exact ⟨v1, v2, _, rfl, d1, d2, hd2 _ (List.getElem_mem hi), true, rfl, iteF ⟨_, rfl, rfl⟩⟩
      · rintro σ H' ⟨y, rfl, rfl⟩
        exact q
  induction n with
  | zero => exact key 0 (.inl rfl)
  | succ n ih => exact key _ (.inr ⟨n, rfl, ih⟩)
end
end Lw
namespace Lw
open PySem PySem.Spec PyProof.Rows L2 Rw Fld
section
variable {P : Program} {w : World} {K : PySem.W.Frag} {mg : Str → Option Value} {base : Heap}
def spDouble : Sp := fun vs H Q _ => ∃ a : Nat, vs = [.int a] ∧ Q (.int (dbl a : Nat)) H
theorem has_double (T : Txt K mg) : Has P w K mg base CX0 1 "double" ["a"] spDouble := by
  refine T.double.has sc_double (by rintro _ _ _ _ ⟨a, rfl, _⟩; rfl) (fun f cdv A outer s H vs Q E hr h => ?_)
  obtain ⟨a, rfl, q⟩ := h
  refine ⟨_, (pss_cons (ps_if (pt_cmpR op_lt (pe_op op_mul pe_int (pv 0)) (pe_globE (by rfl) T.c_BYTES) (nomark _))
  (pss_one (ps_ret (pe_op op_mul pe_int (pv 0))))
  pss_nil)
  (pss_one (ps_ret (pe_op o_xorN (pe_op op_mul pe_int (pv 0)) (pe_globE (by rfl) T.c_OVERFLOW))))), ?_⟩
  unfold dbl at q
  walk_at "go"
  walk_at "br"
  · walk_at "go"
    rw [if_pos (by omega)] at q
    exact q
  · walk_at "go"
    rw [if_neg (by omega)] at q
    exact q
def spProduct : Sp := fun vs H Q _ => ∃ a b : Nat, vs = [.int a, .int b] ∧ Q (.int (mul a b : Nat)) H
theorem has_product (T : Txt K mg) : Has P w K mg base CX0 2 "product" ["a", "b"] spProduct := by
  have h_double := has_double (P := P) (w := w) (base := base) T
  refine T.product.has sc_product (by rintro _ _ _ _ ⟨a, b, rfl, _⟩; rfl) (fun f cdv A outer s H vs Q E hr h => ?_)
  obtain ⟨a, b, rfl, q⟩ := h
  refine ⟨_, (pss_cons (ps_set (i := 2) sc_product.nd rfl (by first | exact Or.inl rfl | exact Or.inr rfl) pe_int)
  (pss_cons (ps_while PassesOwn.never (pt_cmpR op_gt (pv 1) pe_int (nomark _))
  (pss_cons (ps_if (pt_cmpR op_eq (pe_op op_mod (pv 1) pe_int) pe_int (nomark _))
  (pss_one (ps_set (i := 2) sc_product.nd rfl (by first | exact Or.inl rfl | exact Or.inr rfl) (pe_op o_xorN (pv 2) (pv 0))))
  pss_nil)
  (pss_cons (ps_set (i := 0) sc_product.nd rfl (by first | exact Or.inl rfl | exact Or.inr rfl) (pe_callH h_double (hr.mono (by first | decide | omega)) (by rfl) pass0 (pa_cons (pv 0) pa_nil)))
  (pss_one (ps_set (i := 1) sc_product.nd rfl (by first | exact Or.inl rfl | exact Or.inr rfl) (pe_op op_fdiv (pv 1) pe_int))))))
  (pss_one (ps_ret (pv 2))))), ?_⟩
  refine ⟨fun m σ H' => ∃ a' b' t' : Nat, σ = [some (.int a'), some (.int b'), some (.int t')] ∧ m = b' ∧ H' = H ∧ mulL a' b' t' = mul a b, ⟨b, a, b, 0, rfl, rfl, rfl, rfl⟩, ?_⟩
  rintro m σ H' ⟨a', b', t', rfl, rfl, rfl, e⟩
  walk_at "go"
  walk_at "br"
  · rw [mulL, dif_neg (by omega)] at e
    refine ⟨_, fun _ _ h => h, ?_⟩
    walk_at "go"
    walk_at "br"
    · rw [if_pos (by omega)] at e
      walk_at "go"
      exact ⟨m / 2, by omega, _, _, _, rfl, rfl, rfl, e⟩
    · rw [if_neg (by omega)] at e
      walk_at "go"
      exact ⟨m / 2, by omega, _, _, _, rfl, rfl, rfl, e⟩
  · rw [mulL, dif_pos (by omega)] at e
    walk_at "go"
    rw [e]
    exact q
def spInverse : Sp := fun vs H Q _ => ∃ a : Nat, vs = [.int a] ∧ Q (.int (inv a : Nat)) H
theorem has_inverse (T : Txt K mg) : Has P w K mg base CX0 3 "inverse" ["a"] spInverse := by
  have h_product := has_product (P := P) (w := w) (base := base) T
  refine T.inverse.has sc_inverse (by rintro _ _ _ _ ⟨a, rfl, _⟩; rfl) (fun f cdv A outer s H vs Q E hr h => ?_)
  obtain ⟨a, rfl, q⟩ := h
  refine ⟨_, (pss_cons (ps_set (i := 1) sc_inverse.nd rfl (by first | exact Or.inl rfl | exact Or.inr rfl) pe_int)
  (pss_cons (ps_for PassesOwn.never rfl (pi_range1 (by rfl) T.b_range (pa_cons (pe_op op_sub (pe_globE (by rfl) T.c_BITS) pe_int) pa_nil)) (pg_name (i := 2) sc_inverse.nd rfl (by first | exact Or.inl rfl | exact Or.inr rfl))
  (pss_cons (ps_set (i := 0) sc_inverse.nd rfl (by first | exact Or.inl rfl | exact Or.inr rfl) (pe_callH h_product (hr.mono (by first | decide | omega)) (by rfl) pass0 (pa_cons (pv 0) (pa_cons (pv 0) pa_nil))))
  (pss_one (ps_set (i := 1) sc_inverse.nd rfl (by first | exact Or.inl rfl | exact Or.inr rfl) (pe_callH h_product (hr.mono (by first | decide | omega)) (by rfl) pass0 (pa_cons (pv 1) (pa_cons (pv 0) pa_nil)))))))
  (pss_one (ps_ret (pv 1))))), ?_⟩
  walk_at "go"
  refine for_range (lo := 0) (n := 7) (fun i σ H' => ∃ (a' r : Nat) (y : Option V), σ = [some (.int a'), some (.int r), y] ∧ H' = H ∧ invL (7 - i) a' r = inv a) ⟨a, 1, none, rfl, rfl, rfl⟩ ?_ ?_
  · rintro i σ H' hi ⟨a', r, y, rfl, rfl, e⟩
    obtain ⟨m, hm⟩ : ∃ m, 7 - i = m + 1 := ⟨6 - i, by omega⟩
    have hm2 : 7 - (i + 1) = m := by omega
    rw [hm] at e
    unfold invL at e
    walk_at "go"
    rw [hm2]
    exact e
  · rintro σ H' ⟨a', r, y, rfl, rfl, e⟩
    have e : r = inv a := e
    walk_at "go"
    rw [e]
    exact q
end
end Lw
namespace Lw
open PySem PySem.Spec PyProof.Rows L2 Rw Fld
section
variable {P : Program} {w : World} {K : PySem.W.Frag} {mg : Str → Option Value} {base : Heap}
def spTimes : Sp := fun vs H Q _ => ∃ a b : Nat, vs = [.int a, .int b] ∧ Q (.int (times a b : Nat)) H
theorem has__law_times (T : Txt K mg) : Has P w K mg base CX0 1 "_law_times" ["_law_a", "_law_b"] spTimes := by
  refine T._law_times.has sc__law_times (by rintro _ _ _ _ ⟨a, b, rfl, _⟩; rfl) (fun f cdv A outer s H vs Q E hr h => ?_)
  obtain ⟨a, b, rfl, q⟩ := h
  refine ⟨_, (pss_cons (ps_set (i := 2) sc__law_times.nd rfl (by first | exact Or.inl rfl | exact Or.inr rfl) pe_int)
  (pss_cons (ps_for PassesOwn.never rfl (pi_range1 (by rfl) T.b_range (pa_cons pe_int pa_nil)) (pg_name (i := 3) sc__law_times.nd rfl (by first | exact Or.inl rfl | exact Or.inr rfl))
  (pss_cons (ps_if (pt_cmpR op_eq (pe_op op_mod (pe_callTy call_int1 (by rfl) T.b_int boot_int (pa_cons (pv 1) pa_nil)) pe_int) pe_int (nomark _))
  (pss_one (ps_set (i := 2) sc__law_times.nd rfl (by first | exact Or.inl rfl | exact Or.inr rfl) (pe_op o_xorN (pv 2) (pv 0))))
  pss_nil)
  (pss_cons (ps_set (i := 0) sc__law_times.nd rfl (by first | exact Or.inl rfl | exact Or.inr rfl) (pe_op op_mul pe_int (pv 0)))
  (pss_one (ps_set (i := 1) sc__law_times.nd rfl (by first | exact Or.inl rfl | exact Or.inr rfl) (pe_op op_fdiv (pv 1) pe_int))))))
  (pss_cons (ps_set (i := 4) sc__law_times.nd rfl (by first | exact Or.inl rfl | exact Or.inr rfl) pe_int)
  (pss_cons (ps_set (i := 5) sc__law_times.nd rfl (by first | exact Or.inl rfl | exact Or.inr rfl) pe_int)
  (pss_cons (ps_for PassesOwn.never rfl (pi_range1 (by rfl) T.b_range (pa_cons pe_int pa_nil)) (pg_name (i := 3) sc__law_times.nd rfl (by first | exact Or.inl rfl | exact Or.inr rfl))
  (pss_cons (ps_if (pt_cmpR op_ge (pv 2) (pv 4) (nomark _))
  (pss_one (ps_set (i := 2) sc__law_times.nd rfl (by first | exact Or.inl rfl | exact Or.inr rfl) (pe_op o_xorN (pv 2) (pv 5))))
  pss_nil)
  (pss_cons (ps_set (i := 4) sc__law_times.nd rfl (by first | exact Or.inl rfl | exact Or.inr rfl) (pe_op op_fdiv (pv 4) pe_int))
  (pss_one (ps_set (i := 5) sc__law_times.nd rfl (by first | exact Or.inl rfl | exact Or.inr rfl) (pe_op op_fdiv (pv 5) pe_int))))))
  (pss_one (ps_ret (pv 2)))))))), ?_⟩
  walk_at "go"
  refine for_range (lo := 0) (n := 8) (fun i σ H' => ∃ (a' b' t' : Nat) (y : Option V), σ = [some (.int a'), some (.int b'), some (.int t'), y, none, none] ∧ H' = H ∧ t1 (8 - i) a' b' t' = t1 8 a b 0) ⟨a, b, 0, none, rfl, rfl, rfl⟩ ?_ ?_
  · rintro i σ H' hi ⟨a', b', t', y, rfl, rfl, e⟩
    obtain ⟨m, hm⟩ : ∃ m, 8 - i = m + 1 := ⟨7 - i, by omega⟩
    have hm2 : 8 - (i + 1) = m := by omega
    rw [hm] at e
    unfold t1 at e
    walk_at "go"
    walk_at "br"
    · rw [if_pos (by omega)] at e
      walk_at "go"
      exact ⟨_, _, _, _, rfl, rfl, by rw [hm2]; exact e⟩
    · rw [if_neg (by omega)] at e
      walk_at "go"
      exact ⟨_, _, _, _, rfl, rfl, by rw [hm2]; exact e⟩
  · rintro σ H' ⟨a', b', t', y, rfl, rfl, e⟩
    have e : t' = t1 8 a b 0 := e
    walk_at "go"
    refine for_range (lo := 0) (n := 8) (fun i σ H2 => ∃ (p q' t2' : Nat) (y : Option V), σ = [some (.int a'), some (.int b'), some (.int t2'), y, some (.int p), some (.int q')] ∧ H2 = H' ∧ t2 (8 - i) p q' t2' = times a b) ⟨32768, 36480, t', y, rfl, rfl, by rw [e]; rfl⟩ ?_ ?_
    · rintro i σ H2 hi ⟨p, q', t2', y, rfl, rfl, e2⟩
      obtain ⟨m, hm⟩ : ∃ m, 8 - i = m + 1 := ⟨7 - i, by omega⟩
      have hm2 : 8 - (i + 1) = m := by omega
      rw [hm] at e2
      unfold t2 at e2
      walk_at "go"
      walk_at "br"
      · rw [if_pos (by omega)] at e2
        walk_at "go"
        exact ⟨_, _, _, _, rfl, rfl, by rw [hm2]; exact e2⟩
      · rw [if_neg (by omega)] at e2
        walk_at "go"
        exact ⟨_, _, _, _, rfl, rfl, by rw [hm2]; exact e2⟩
    · rintro σ H2 ⟨p, q', t2', y, rfl, rfl, e2⟩
      have e2 : t2' = times a b := e2
      walk_at "go"
      rw [e2]
      exact q
end
end Lw
namespace Lw
open PySem PySem.Spec PyProof.Rows L2 Rw Fld
section
variable {P : Program} {w : World} {K : PySem.W.Frag} {mg : Str → Option Value} {base : Heap}
def spAsks : Sp := fun vs H Q _ => ∃ a b c : Nat, vs = [.int a, .int b, .int c] ∧ a < 256 ∧ b < 256 ∧ c < 256 ∧ Q (.bl true) H
theorem has__law_asks (T : Txt K mg) : Has P w K mg base CX0 4 "_law_asks" ["_law_a", "_law_b", "_law_c"] spAsks := by
  have h_double := has_double (P := P) (w := w) (base := base) T
  have h_product := has_product (P := P) (w := w) (base := base) T
  have h_inverse := has_inverse (P := P) (w := w) (base := base) T
  have h__law_times := has__law_times (P := P) (w := w) (base := base) T
  have h__law_same := has__law_same (P := P) (w := w) (base := base) T 0
  refine T._law_asks.has sc__law_asks (by rintro _ _ _ _ ⟨_, _, _, rfl, _⟩; rfl) (fun f cdv A outer s H vs Q E hr h => ?_)
  obtain ⟨a, b, c, rfl, ha, hb, hc, q⟩ := h
  refine ⟨_, (pss_cons (ps_if (PW.pt (pw_or (pt_not (pt_val (pe_callH h__law_same (hr.mono (by first | decide | omega)) (by rfl) pass0 (pa_cons (pe_callH h_double (hr.mono (by first | decide | omega)) (by rfl) pass0 (pa_cons (pv 0) pa_nil)) (pa_cons (pe_callH h__law_times (hr.mono (by first | decide | omega)) (by rfl) pass0 (pa_cons (pv 0) (pa_cons pe_int pa_nil))) pa_nil))))) (pw_or1 (pt_not (pt_val (pe_callH h__law_same (hr.mono (by first | decide | omega)) (by rfl) pass0 (pa_cons (pe_callH h_product (hr.mono (by first | decide | omega)) (by rfl) pass0 (pa_cons (pv 0) (pa_cons (pv 1) pa_nil))) (pa_cons (pe_callH h__law_times (hr.mono (by first | decide | omega)) (by rfl) pass0 (pa_cons (pv 0) (pa_cons (pv 1) pa_nil))) pa_nil))))))))
  (pss_one (ps_ret pe_bl))
  pss_nil)
  (pss_cons (ps_if (PW.pt (pw_or (pt_not (pt_val (pe_callH h__law_same (hr.mono (by first | decide | omega)) (by rfl) pass0 (pa_cons (pe_callH h_product (hr.mono (by first | decide | omega)) (by rfl) pass0 (pa_cons (pv 1) (pa_cons (pv 0) pa_nil))) (pa_cons (pe_callH h__law_times (hr.mono (by first | decide | omega)) (by rfl) pass0 (pa_cons (pv 0) (pa_cons (pv 1) pa_nil))) pa_nil))))) (pw_or1 (pt_not (pt_val (pe_callH h__law_same (hr.mono (by first | decide | omega)) (by rfl) pass0 (pa_cons (pe_callH h_product (hr.mono (by first | decide | omega)) (by rfl) pass0 (pa_cons (pe_op o_xorN (pv 0) (pv 2)) (pa_cons (pv 1) pa_nil))) (pa_cons (pe_op o_xorN (pe_callH h__law_times (hr.mono (by first | decide | omega)) (by rfl) pass0 (pa_cons (pv 0) (pa_cons (pv 1) pa_nil))) (pe_callH h__law_times (hr.mono (by first | decide | omega)) (by rfl) pass0 (pa_cons (pv 2) (pa_cons (pv 1) pa_nil)))) pa_nil))))))))
  (pss_one (ps_ret pe_bl))
  pss_nil)
  (pss_cons (ps_if (PW.pt (pw_or (pt_cmpR op_ne (pe_callH h_product (hr.mono (by first | decide | omega)) (by rfl) pass0 (pa_cons (pv 0) (pa_cons pe_int pa_nil))) pe_int (nomark _)) (pw_or (pt_cmpR op_ne (pe_callH h_product (hr.mono (by first | decide | omega)) (by rfl) pass0 (pa_cons pe_int (pa_cons (pv 0) pa_nil))) (pv 0) (nomark _)) (pw_or1 (pt_cmpR op_ne (pe_callH h_product (hr.mono (by first | decide | omega)) (by rfl) pass0 (pa_cons (pv 0) (pa_cons (pe_callH h_product (hr.mono (by first | decide | omega)) (by rfl) pass0 (pa_cons (pv 1) (pa_cons (pv 2) pa_nil))) pa_nil))) (pe_callH h_product (hr.mono (by first | decide | omega)) (by rfl) pass0 (pa_cons (pe_callH h_product (hr.mono (by first | decide | omega)) (by rfl) pass0 (pa_cons (pv 0) (pa_cons (pv 1) pa_nil))) (pa_cons (pv 2) pa_nil))) (nomark _))))))
  (pss_one (ps_ret pe_bl))
  pss_nil)
  (pss_cons (ps_if (pt_cmpR op_eq (pv 0) pe_int (nomark _))
  (pss_one (ps_ret pe_bl))
  pss_nil)
  (pss_cons (ps_set (i := 3) sc__law_asks.nd rfl (by first | exact Or.inl rfl | exact Or.inr rfl) (pe_callH h_inverse (hr.mono (by first | decide | omega)) (by rfl) pass0 (pa_cons (pv 0) pa_nil)))
  (pss_cons (ps_if (PW.pt (pw_or (pt_not (pt_val (pe_callH h__law_same (hr.mono (by first | decide | omega)) (by rfl) pass0 (pa_cons (pv 3) (pa_cons (pe_callTy call_int1 (by rfl) T.b_int boot_int (pa_cons (pv 3) pa_nil)) pa_nil))))) (pw_or1 (pt_not (pt_chain op_lt op_lt pe_int (pv 3) pe_int)))))
  (pss_one (ps_ret pe_bl))
  pss_nil)
  (pss_one (ps_ret (pe_cmpR op_eq (pe_callH h__law_times (hr.mono (by first | decide | omega)) (by rfl) pass0 (pa_cons (pv 0) (pa_cons (pv 3) pa_nil))) pe_int (nomark _)))))))))), ?_⟩
  have e1 : dbl a = times a 2 := by rw [dbl_mul ha, times_mul ha (by decide)]
  have e2 : mul a b = times a b := (times_mul ha hb).symm
  have e3 : mul b a = times a b := by rw [mul_comm hb ha, e2]
  have e4 : mul (a ^^^ c) b = times a b ^^^ times c b := by rw [mul_xorL ha hc hb, e2, times_mul hc hb]
  walk_at "go"
  refine ⟨_, _, .int (dbl a : Nat), rfl, .int _, dp_int (by rw [e1]), Shal.int _ _, true, rfl, iteF ?_⟩
  walk_at "go"
  refine ⟨_, _, .int (mul a b : Nat), rfl, .int _, dp_int (by rw [e2]), Shal.int _ _, true, rfl, iteF ?_⟩
  walk_at "go"
  refine ⟨_, _, .int (mul b a : Nat), rfl, .int _, dp_int (by rw [e3]), Shal.int _ _, true, rfl, iteF ?_⟩
  walk_at "go"
  refine ⟨_, _, .int (mul (a ^^^ c) b : Nat), rfl, .int _, dp_int (by rw [e4]), Shal.int _ _, true, rfl, iteF ?_⟩
  walk_at "go"
  refine iteNS (by rw [mul_zero]; rfl) ?_
  walk_at "go"
  refine iteNS (by rw [one_mul ha]) ?_
  walk_at "go"
  refine iteNS (by rw [mul_assoc ha hb hc]) ?_
  walk_at "go"
  walk_at "br"
  · exact q
  · rename_i h0
    have a0 : a ≠ 0 := by omega
    have il := inv_lt ha a0
    have ip : inv a ≠ 0 := fun z => by
      have := mul_inv ha a0
      rw [z, mul_zero] at this
      cases this
    walk_at "go"
    refine ⟨_, _, .int (inv a : Nat), rfl, .int _, .int _, Shal.int _ _, true, rfl, iteF ?_⟩
    walk_at "go"
    refine ifY (by omega) ?_
    walk_at "go"
    refine ifNN (by omega) ?_
    walk_at "go"
    rw [times_mul ha il, mul_inv ha a0]
    exact q
/-- the law's own promise -/
def spLaw (K : PySem.W.Frag) : Sp := fun vs H Q _ => ∃ (a : Addr) (ns : List Int), vs = [.ref a] ∧ SqL K H a (ns.map V.int) ∧ ns.length ≤ 63 ∧ ∀ H', Q (.bl true) H'
theorem has_law (T : Txt K mg) : Has P w K mg base CX0 5 "law" ["_law_script"] (spLaw K) := by
  have h__law_next := has__law_next (P := P) (w := w) (base := base) T
  have h__law_asks := has__law_asks (P := P) (w := w) (base := base) T
  refine T.law.has sc_law (by rintro _ _ _ _ ⟨_, _, rfl, _⟩; rfl) (fun f cdv A outer s H vs Q E hr h => ?_)
  obtain ⟨a, ns, rfl, hS, hlen, q⟩ := h
  refine ⟨_, (pss_cons (ps_set (i := 1) sc_law.nd rfl (by first | exact Or.inl rfl | exact Or.inr rfl) (pe_lst (pa_cons (pe_callTy call_list_of (by rfl) T.b_list (by decide +kernel) (pa_cons (pv 0) pa_nil)) (pa_cons pe_int (pa_cons pe_int (pa_cons pe_int pa_nil))))))
  (pss_cons (ps_set (i := 2) sc_law.nd rfl (by first | exact Or.inl rfl | exact Or.inr rfl) (pe_lst (pa_cons (pe_ix ix_list (pe_lst (pa_cons pe_int (pa_cons pe_int (pa_cons pe_int (pa_cons pe_int pa_nil))))) (pe_callH h__law_next (hr.mono (by first | decide | omega)) (by rfl) pass0 (pa_cons (pv 1) (pa_cons pe_int pa_nil))) (fun _ _ => rfl)) pa_nil)))
  (pss_cons (ps_for PassesOwn.never rfl (pi_range1 (by rfl) T.b_range (pa_cons pe_int pa_nil)) (pg_name (i := 3) sc_law.nd rfl (by first | exact Or.inl rfl | exact Or.inr rfl))
  (pss_one (ps_expr (pe_bm PySem.F.plainAttrs_list PySem.F.slot_list_append PySem.F.type_list_append mt_append (pv 2) (pa_cons (pe_callH h__law_next (hr.mono (by first | decide | omega)) (by rfl) pass0 (pa_cons (pv 1) (pa_cons pe_int pa_nil))) pa_nil)))))
  (pss_cons (ps_for PassesOwn.never rfl (pi_list (pv 2)) (pg_name (i := 4) sc_law.nd rfl (by first | exact Or.inl rfl | exact Or.inr rfl))
  (pss_one (ps_for PassesOwn.never rfl (pi_list (pv 2)) (pg_name (i := 5) sc_law.nd rfl (by first | exact Or.inl rfl | exact Or.inr rfl))
  (pss_one (ps_if (pt_not (pt_val (pe_callH h__law_asks (hr.mono (by first | decide | omega)) (by rfl) pass0 (pa_cons (pv 4) (pa_cons (pv 5) (pa_cons (pe_ix ix_list (pv 2) pe_int (fun _ _ => rfl)) pa_nil))))))
  (pss_one (ps_ret pe_bl))
  pss_nil)))))
  (pss_cons (ps_if (pt_cmpR op_eq (pe_callH h__law_next (hr.mono (by first | decide | omega)) (by rfl) pass0 (pa_cons (pv 1) (pa_cons pe_int pa_nil))) pe_int (nomark _))
  (pss_one (ps_for PassesOwn.never rfl (pi_range1 (by rfl) T.b_range (pa_cons pe_int pa_nil)) (pg_name (i := 4) sc_law.nd rfl (by first | exact Or.inl rfl | exact Or.inr rfl))
  (pss_one (ps_if (pt_not (pt_val (pe_callH h__law_asks (hr.mono (by first | decide | omega)) (by rfl) pass0 (pa_cons (pv 4) (pa_cons (pe_ix ix_list (pv 2) pe_int (fun _ _ => rfl)) (pa_cons (pe_ix ix_list (pv 2) pe_int (fun _ _ => rfl)) pa_nil))))))
  (pss_one (ps_ret pe_bl))
  pss_nil))))
  pss_nil)
  (pss_one (ps_ret pe_bl))))))), ?_⟩
  walk_at "go"
  intro l hl
  generalize g1 : upd H l _ = H1
  obtain ⟨s1, e1, k1⟩ := new_at hl g1
  walk_at "go"
  intro p hp
  generalize g2 : upd H1 p _ = H2
  obtain ⟨s2, e2, k2⟩ := new_at hp g2
  walk_at "go"
  intro r hr3
  generalize g3 : upd H2 r _ = H3
  obtain ⟨s3, e3, k3⟩ := new_at hr3 g3
  have ls3 : LS K H1 H3 p := ⟨hp, s2.trans s3, l, ns, 0, 0, 1, s3 _ _ e2, .of e1⟩
  walk_at "go"
  intro v H4 hv ls4 k4
  obtain ⟨x, hx, ex⟩ : ∃ x : Nat, x < 256 ∧ ([V.int 0, V.int 1, V.int 255, V.int 128] : List V)[v]? = some (.int x) := by
    match v, hv with
    | 0, _ => exact ⟨0, by decide, rfl⟩
    | 1, _ => exact ⟨1, by decide, rfl⟩
    | 2, _ => exact ⟨255, by decide, rfl⟩
    | 3, _ => exact ⟨128, by decide, rfl⟩
  have nrp : r ≠ p := (ne_of_none e2 hr3).symm
  have e4 : H4 r = some (.lst [V.int 0, V.int 1, V.int 255, V.int 128]) := by rw [k4 r nrp]; exact e3
  walk_at "go"
  intro dr hdr
  generalize g5 : upd H4 dr _ = H5
  obtain ⟨s5, e5, k5⟩ := new_at hdr g5
  have ls5 := ls4.same s5
  walk_at "go"
  have ndp := ls4.ne hdr
  have fdr : H1 dr = none := ls4.base.free hdr
  refine for_range (lo := 0) (n := 4) (fun i σ H' => ∃ (ds : List Nat) (y : Option V), σ = [some (.ref a), some (.ref p), some (.ref dr), y, none, none] ∧ H' dr = some (.lst (ds.map fun n => V.int (n : Nat))) ∧ LS K H1 H' p ∧ ds.length = i + 1 ∧ ∀ d ∈ ds, d < 256)
    ⟨[x], none, rfl, e5, ls5, rfl, by simpa using hx⟩ ?_ ?_
  · rintro i σ H' hi ⟨ds, y, rfl, hd, ls, hl, hb⟩
    walk_at "go"
    intro v2 H6 hv2 ls6 k6
    have hd6 : H6 dr = some (.lst (ds.map fun n => V.int (n : Nat))) := by rw [k6 dr ndp]; exact hd
    walk_at "go"
    generalize g7 : upd H6 dr _ = H7
    obtain ⟨e7, k7⟩ := mut_at g7
    refine ⟨ds ++ [v2], _, rfl, by rw [e7, List.map_append]; rfl, ls6.but ndp fdr k7, by rw [List.length_append, hl]; rfl, fun d hm => ?_⟩
    rcases List.mem_append.mp hm with h | h
    · exact hb d h
    · rw [List.mem_singleton.mp h]
      exact hv2
  · rintro σ H' ⟨ds, y, rfl, hd, ls, hl, hb⟩
    obtain ⟨d1, d2, d3, d4, d5, rfl⟩ : ∃ d1 d2 d3 d4 d5, ds = [d1, d2, d3, d4, d5] := by
      match ds, hl with
      | [d1, d2, d3, d4, d5], _ => exact ⟨d1, d2, d3, d4, d5, rfl⟩
    have hS : SqL K H' dr _ := .of hd
    walk_at "go"
    refine for_list (K := K) (a := dr) (xs := [d1, d2, d3, d4, d5].map fun n => V.int (n : Nat)) (fun i σ H2 => ∃ y4 y5 : Option V, σ = [some (.ref a), some (.ref p), some (.ref dr), y, y4, y5] ∧ H2 = H') ⟨none, none, rfl, rfl⟩ ?_ ?_ ?_
    · rintro i σ H2 _ ⟨_, _, rfl, rfl⟩
      exact hS
    · rintro i v σ H2 hi ⟨y4, y5, rfl, rfl⟩
      obtain ⟨da, rfl, hda⟩ : ∃ d : Nat, v = .int d ∧ d < 256 := by
        obtain ⟨d, hm, e⟩ := List.mem_map.mp (List.mem_of_getElem? hi)
        exact ⟨d, e.symm, hb d hm⟩
      walk_at "go"
      refine for_list (K := K) (a := dr) (xs := [d1, d2, d3, d4, d5].map fun n => V.int (n : Nat)) (fun i σ H3 => ∃ y5 : Option V, σ = [some (.ref a), some (.ref p), some (.ref dr), y, some (.int da), y5] ∧ H3 = H2) ⟨y5, rfl, rfl⟩ ?_ ?_ ?_
      · rintro i σ H2 _ ⟨_, rfl, rfl⟩
        exact hS
      · rintro i v σ H3 hi2 ⟨y5, rfl, rfl⟩
        obtain ⟨db, rfl, hdb⟩ : ∃ d : Nat, v = .int d ∧ d < 256 := by
          obtain ⟨d, hm, e⟩ := List.mem_map.mp (List.mem_of_getElem? hi2)
          exact ⟨d, e.symm, hb d hm⟩
        have hd4 : d4 < 256 := hb d4 (by simp)
        walk_at "go"
        rfl
      · rintro σ H3 ⟨y5, rfl, rfl⟩
        exact ⟨_, _, rfl, rfl⟩
    · rintro σ H2 ⟨y4, y5, rfl, rfl⟩
      walk_at "go"
      intro v H3 hv ls3 k3
      have hS3 : SqL K H3 dr ([d1, d2, d3, d4, d5].map fun n => V.int (n : Nat)) := .of (by rw [k3 dr ndp]; exact hd)
      walk_at "go"
      walk_at "br"
      · walk_at "go"
        refine for_range (lo := 0) (n := 256) (fun i σ H4 => ∃ y4 : Option V, σ = [some (.ref a), some (.ref p), some (.ref dr), y, y4, y5] ∧ H4 = H3) ⟨y4, rfl, rfl⟩ ?_ ?_
        · rintro i σ H4 hi ⟨y4, rfl, rfl⟩
          have h2 : d2 < 256 := hb d2 (by simp)
          have h3 : d3 < 256 := hb d3 (by simp)
          have hi2 : 0 + i < 256 := by omega
          walk_at "go"
          rfl
        · rintro σ H4 ⟨y4, rfl, rfl⟩
          exact q _
      · exact q _
end
end Lw
namespace Lw
open PySem PySem.Spec PyProof.Rows L2 Rw Fld
theorem txt_mk {K : PySem.W.Frag} {h : Heap} {mg : Str → Option Value} (X : K.In h) (G : h.Ns mainGlobals mg)
    {t9 : Tok} {t10 : Tok} {t11 : Tok} {f12 : Addr} {od12 an12 : Option Addr} {sl12 : Array (Option Value)} {oc12 kV12 dc12 pm12 cd12 ct12 : Value} {f13 : Addr} {od13 an13 : Option Addr} {sl13 : Array (Option Value)} {oc13 kV13 dc13 pm13 cd13 ct13 : Value} {f14 : Addr} {od14 an14 : Option Addr} {sl14 : Array (Option Value)} {oc14 kV14 dc14 pm14 cd14 ct14 : Value} {f15 : Addr} {od15 an15 : Option Addr} {sl15 : Array (Option Value)} {oc15 kV15 dc15 pm15 cd15 ct15 : Value} {f16 : Addr} {od16 an16 : Option Addr} {sl16 : Array (Option Value)} {oc16 kV16 dc16 pm16 cd16 ct16 : Value} {f17 : Addr} {od17 an17 : Option Addr} {sl17 : Array (Option Value)} {oc17 kV17 dc17 pm17 cd17 ct17 : Value} {f18 : Addr} {od18 an18 : Option Addr} {sl18 : Array (Option Value)} {oc18 kV18 dc18 pm18 cd18 ct18 : Value} {f19 : Addr} {od19 an19 : Option Addr} {sl19 : Array (Option Value)} {oc19 kV19 dc19 pm19 cd19 ct19 : Value}
    (q1 : PySem.W.nsIn K mainGlobals "bool" = some none) (q2 : PySem.W.nsIn K mainGlobals "int" = some none) (q3 : PySem.W.nsIn K mainGlobals "isinstance" = some none) (q4 : PySem.W.nsIn K mainGlobals "len" = some none) (q5 : PySem.W.nsIn K mainGlobals "list" = some none) (q6 : PySem.W.nsIn K mainGlobals "range" = some none) (q7 : PySem.W.nsIn K mainGlobals "str" = some none) (q8 : PySem.W.nsIn K mainGlobals "tuple" = some none) (q9 : PySem.W.nsIn K mainGlobals "BITS" = some (some (.int 8 t9))) (q10 : PySem.W.nsIn K mainGlobals "BYTES" = some (some (.int 256 t10))) (q11 : PySem.W.nsIn K mainGlobals "OVERFLOW" = some (some (.int 285 t11))) (a12 : PySem.W.nsIn K mainGlobals "double" = some (some (.ref f12))) (l12 : K.lookup f12 = some ⟨oc12, od12, .func (PySem.W.fnOf "double" "double" (defArgs (topS 4)) (defBody (topS 4)) (defScope (topS 4)) .none kV12 dc12 pm12 an12 cd12 ct12), sl12⟩) (c12 : PySem.W.codeIn K cd12 "double" = true) (k12 : PySem.W.keepIn K (.ref f12) = true) (a13 : PySem.W.nsIn K mainGlobals "product" = some (some (.ref f13))) (l13 : K.lookup f13 = some ⟨oc13, od13, .func (PySem.W.fnOf "product" "product" (defArgs (topS 5)) (defBody (topS 5)) (defScope (topS 5)) .none kV13 dc13 pm13 an13 cd13 ct13), sl13⟩) (c13 : PySem.W.codeIn K cd13 "product" = true) (k13 : PySem.W.keepIn K (.ref f13) = true) (a14 : PySem.W.nsIn K mainGlobals "inverse" = some (some (.ref f14))) (l14 : K.lookup f14 = some ⟨oc14, od14, .func (PySem.W.fnOf "inverse" "inverse" (defArgs (topS 6)) (defBody (topS 6)) (defScope (topS 6)) .none kV14 dc14 pm14 an14 cd14 ct14), sl14⟩) (c14 : PySem.W.codeIn K cd14 "inverse" = true) (k14 : PySem.W.keepIn K (.ref f14) = true) (a15 : PySem.W.nsIn K mainGlobals "_law_next" = some (some (.ref f15))) (l15 : K.lookup f15 = some ⟨oc15, od15, .func (PySem.W.fnOf "_law_next" "_law_next" (defArgs (topS 8)) (defBody (topS 8)) (defScope (topS 8)) .none kV15 dc15 pm15 an15 cd15 ct15), sl15⟩) (c15 : PySem.W.codeIn K cd15 "_law_next" = true) (k15 : PySem.W.keepIn K (.ref f15) = true) (a16 : PySem.W.nsIn K mainGlobals "_law_same" = some (some (.ref f16))) (l16 : K.lookup f16 = some ⟨oc16, od16, .func (PySem.W.fnOf "_law_same" "_law_same" (defArgs (topS 9)) (defBody (topS 9)) (defScope (topS 9)) .none kV16 dc16 pm16 an16 cd16 ct16), sl16⟩) (c16 : PySem.W.codeIn K cd16 "_law_same" = true) (k16 : PySem.W.keepIn K (.ref f16) = true) (a17 : PySem.W.nsIn K mainGlobals "_law_times" = some (some (.ref f17))) (l17 : K.lookup f17 = some ⟨oc17, od17, .func (PySem.W.fnOf "_law_times" "_law_times" (defArgs (topS 10)) (defBody (topS 10)) (defScope (topS 10)) .none kV17 dc17 pm17 an17 cd17 ct17), sl17⟩) (c17 : PySem.W.codeIn K cd17 "_law_times" = true) (k17 : PySem.W.keepIn K (.ref f17) = true) (a18 : PySem.W.nsIn K mainGlobals "_law_asks" = some (some (.ref f18))) (l18 : K.lookup f18 = some ⟨oc18, od18, .func (PySem.W.fnOf "_law_asks" "_law_asks" (defArgs (topS 11)) (defBody (topS 11)) (defScope (topS 11)) .none kV18 dc18 pm18 an18 cd18 ct18), sl18⟩) (c18 : PySem.W.codeIn K cd18 "_law_asks" = true) (k18 : PySem.W.keepIn K (.ref f18) = true) (a19 : PySem.W.nsIn K mainGlobals "law" = some (some (.ref f19))) (l19 : K.lookup f19 = some ⟨oc19, od19, .func (PySem.W.fnOf "law" "law" (defArgs (topS 12)) (defBody (topS 12)) (defScope (topS 12)) .none kV19 dc19 pm19 an19 cd19 ct19), sl19⟩) (c19 : PySem.W.codeIn K cd19 "law" = true) (k19 : PySem.W.keepIn K (.ref f19) = true) : Txt K mg where
  b_bool := PySem.W.mg_none_of X G q1
  b_int := PySem.W.mg_none_of X G q2
  b_isinstance := PySem.W.mg_none_of X G q3
  b_len := PySem.W.mg_none_of X G q4
  b_list := PySem.W.mg_none_of X G q5
  b_range := PySem.W.mg_none_of X G q6
  b_str := PySem.W.mg_none_of X G q7
  b_tuple := PySem.W.mg_none_of X G q8
  c_BITS := ⟨_, PySem.W.mg_of X G q9, _, rfl⟩
  c_BYTES := ⟨_, PySem.W.mg_of X G q10, _, rfl⟩
  c_OVERFLOW := ⟨_, PySem.W.mg_of X G q11, _, rfl⟩
  double := ⟨_, _, PySem.W.mg_of X G a12, fun_mk (st := (topS 4)) l12 c12 k12, (fun_mk (st := (topS 4)) l12 c12 k12).binds (ps := ["a"]) fun _ _ _ _ _ _ us hl => match us, hl with | [_], _ => rfl⟩
  product := ⟨_, _, PySem.W.mg_of X G a13, fun_mk (st := (topS 5)) l13 c13 k13, (fun_mk (st := (topS 5)) l13 c13 k13).binds (ps := ["a", "b"]) fun _ _ _ _ _ _ us hl => match us, hl with | [_, _], _ => rfl⟩
  inverse := ⟨_, _, PySem.W.mg_of X G a14, fun_mk (st := (topS 6)) l14 c14 k14, (fun_mk (st := (topS 6)) l14 c14 k14).binds (ps := ["a"]) fun _ _ _ _ _ _ us hl => match us, hl with | [_], _ => rfl⟩
  _law_next := ⟨_, _, PySem.W.mg_of X G a15, fun_mk (st := (topS 8)) l15 c15 k15, (fun_mk (st := (topS 8)) l15 c15 k15).binds (ps := ["_law_state", "_law_limit"]) fun _ _ _ _ _ _ us hl => match us, hl with | [_, _], _ => rfl⟩
  _law_same := ⟨_, _, PySem.W.mg_of X G a16, fun_mk (st := (topS 9)) l16 c16 k16, (fun_mk (st := (topS 9)) l16 c16 k16).binds (ps := ["_law_actual", "_law_expected"]) fun _ _ _ _ _ _ us hl => match us, hl with | [_, _], _ => rfl⟩
  _law_times := ⟨_, _, PySem.W.mg_of X G a17, fun_mk (st := (topS 10)) l17 c17 k17, (fun_mk (st := (topS 10)) l17 c17 k17).binds (ps := ["_law_a", "_law_b"]) fun _ _ _ _ _ _ us hl => match us, hl with | [_, _], _ => rfl⟩
  _law_asks := ⟨_, _, PySem.W.mg_of X G a18, fun_mk (st := (topS 11)) l18 c18 k18, (fun_mk (st := (topS 11)) l18 c18 k18).binds (ps := ["_law_a", "_law_b", "_law_c"]) fun _ _ _ _ _ _ us hl => match us, hl with | [_, _, _], _ => rfl⟩
  law := ⟨_, _, PySem.W.mg_of X G a19, fun_mk (st := (topS 12)) l19 c19 k19, (fun_mk (st := (topS 12)) l19 c19 k19).binds (ps := ["_law_script"]) fun _ _ _ _ _ _ us hl => match us, hl with | [_], _ => rfl⟩
theorem law_mk {P : Program} {w : World} {K : PySem.W.Frag} {mg : Str → Option Value} {fa : Addr} (T : Txt K mg) (hfa : mg "law" = some (.ref fa)) :
    ∃ fd : FuncData, (∀ (s : Shared) (v : Value), BindsTo s fd ⟨[v], []⟩ [("_law_script", v)]) ∧ ∀ base : Heap, K.In base → base.Ns mainGlobals mg → FnOk P w K mg base CX0 5 fa fd ["_law_script"] (spLaw K) := by
  refine Has.law (x := "law") (ps := ["_law_script"]) (fun base => has_law T) ?_ hfa
  obtain ⟨f, fd, g, F, _⟩ := T.law
  have lk := fun_look F
  obtain ⟨oc, od, kV, doc, pm, an, cdv, ct, osl, rfl, l, c⟩ := F.ex
  exact ⟨f, _, g, lk, fun s v => .of_eq rfl⟩
end Lw
open PySem PySem.W PyProof.Rows
set_option maxRecDepth 100000 in
set_option maxHeartbeats 0 in
theorem PySem.Challenge.cw_rotward_k20_field_of_bytes_holds : PySem.Challenge.rw_rotward_k20_field_of_bytes.Holds := by
  w_on; o_law; k_head; (case hw => w_witness2)
  k_fill
  refine L2.walk_of (l := PySem.Challenge.rw_rotward_k20_field_of_bytes) (n := 63) (k := 5) (x := "_law_script") (CX := fun w => L2.CX0) (sp := fun w => Lw.spLaw _) rfl (by decide) rfl ⟨rfl, by decide, by decide⟩ (fun w h Y => PySem.W.kIn_of Y) ?F (fun _ _ a ns hl _ hS => ⟨a, ns, rfl, hS, hl, fun _ => rfl⟩) (fun _ _ _ _ _ h => h)
  case F =>
    intro w mg fa h KX G hmg
    refine Lw.law_mk ?T hmg
    refine' Lw.txt_mk KX G ?q1 ?q2 ?q3 ?q4 ?q5 ?q6 ?q7 ?q8 ?q9 ?q10 ?q11 ?a12 ?l12 ?c12 ?k12 ?a13 ?l13 ?c13 ?k13 ?a14 ?l14 ?c14 ?k14 ?a15 ?l15 ?c15 ?k15 ?a16 ?l16 ?c16 ?k16 ?a17 ?l17 ?c17 ?k17 ?a18 ?l18 ?c18 ?k18 ?a19 ?l19 ?c19 ?k19
    (case q1 => k_is)
    (case q2 => k_is)
    (case q3 => k_is)
    (case q4 => k_is)
    (case q5 => k_is)
    (case q6 => k_is)
    (case q7 => k_is)
    (case q8 => k_is)
    (case q9 => k_is)
    (case q10 => k_is)
    (case q11 => k_is)
    (case a12 => k_is)
    (case l12 => k_is)
    (case c12 => k_is)
    (case k12 => k_is)
    (case a13 => k_is)
    (case l13 => k_is)
    (case c13 => k_is)
    (case k13 => k_is)
    (case a14 => k_is)
    (case l14 => k_is)
    (case c14 => k_is)
    (case k14 => k_is)
    (case a15 => k_is)
    (case l15 => k_is)
    (case c15 => k_is)
    (case k15 => k_is)
    (case a16 => k_is)
    (case l16 => k_is)
    (case c16 => k_is)
    (case k16 => k_is)
    (case a17 => k_is)
    (case l17 => k_is)
    (case c17 => k_is)
    (case k17 => k_is)
    (case a18 => k_is)
    (case l18 => k_is)
    (case c18 => k_is)
    (case k18 => k_is)
    (case a19 => k_is)
    (case l19 => k_is)
    (case c19 => k_is)
    (case k19 => k_is)
#print axioms PySem.Challenge.cw_rotward_k20_field_of_bytes_holds
