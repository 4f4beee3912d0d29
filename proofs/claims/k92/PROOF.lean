import PyProof.Rows.All
import Wide.All
import OpenK.AllK
import Wide.FinOn
import HandS.ForMost
import HandS.ForExc
import HandS.StrMore
import HandS.Codes
import HandS.IsInst
import HandS.ExcIs
import HandS.Small
import HandS.WordsExc
import HandS.Style
import HandS.More
import HandS.Wide
import HandS.Flow
import HandS.Walk
import HandS.Zip
import HandS.ReplaceLit
import HandS.SortInts
import HandS.ReplaceList
import KE.GoesMore
import KE.GoesEnum
import HandS.Set
import HandS.SetFor
import HandS.Strs
import HandS.TryMany
import PyProof.ReprReads
import PyProof.ReprLen
import PyProof.ReprRoads
import PySem.Challenge.RW_pageseen_k92_floats_that_stand_no_higher
set_option Elab.async false
set_option linter.all false
set_option maxRecDepth 100000
set_option maxHeartbeats 4000000
/-! ### the common ground -/
namespace KB
open PySem PySem.Spec PyProof.Rows L2
abbrev S (l : List Nat) : Str := ⟨l.toArray⟩
theorem cx_K {CX : CXT} {P : Program} {w : World} {K : PySem.W.Frag} {mg : Str → Option Value} {base : Heap} {N : List Str} {qual : Str} {scope : Scope} {f : Addr} {cd : Value} {A : Around} {outer : List Env} {s : Shared} {H : Hp} {E : XK} :
    (cxOf CX P w K mg base N qual scope f cd A outer s H E).K = K := rfl
theorem cx_w {CX : CXT} {P : Program} {w : World} {K : PySem.W.Frag} {mg : Str → Option Value} {base : Heap} {N : List Str} {qual : Str} {scope : Scope} {f : Addr} {cd : Value} {A : Around} {outer : List Env} {s : Shared} {H : Hp} {E : XK} :
    (cxOf CX P w K mg base N qual scope f cd A outer s H E).w = w := rfl
theorem qb {Q : VK} {H : Hp} {a b : Bool} (h : Q (.bl a) H) (e : b = a) : Q (.bl b) H := e ▸ h
theorem S_len (l : List Nat) : (S l).length = l.length := id rfl
theorem S_cps (l : List Nat) : (S l).cps.toList = l := id rfl
theorem S_inj {a b : List Nat} : S a = S b ↔ a = b := by
  constructor
  · intro h
    exact congrArg (fun s : Str => s.cps.toList) h
  · rintro rfl
    rfl
theorem S_app (a b : List Nat) : S a ++ S b = S (a ++ b) := by
  show (⟨a.toArray ++ b.toArray⟩ : Str) = ⟨(a ++ b).toArray⟩
  simp
theorem scal_ii {i j : Int} : scal (.int i) (.int j) = true := id rfl
theorem scal_ss {i j : Str} : scal (.str i) (.str j) = true := id rfl
theorem scal_bb {i j : Bool} : scal (.bl i) (.bl j) = true := id rfl
theorem scal_nn : scal .non .non = true := id rfl
theorem scal_is {i : Int} {j : Str} : scal (.int i) (.str j) = true := id rfl
theorem scal_si {i : Int} {j : Str} : scal (.str j) (.int i) = true := id rfl
theorem sz5 {n : Nat} (h : n ≤ 1000000) : n ≤ sizeLine := Nat.le_trans h (by decide)
theorem sz5' {n : Nat} (h : n ≤ 1000000) : n < sizeLine := Nat.lt_of_le_of_lt h (by decide)
theorem at_nat {α : Type} {l : List α} {i : Nat} {x : α} (h : l[i]? = some x) : atI l (i : Int) = some x := atI_nat h
/-- a def of the top that keeps a promise -/
def Ok (P : Program) (w : World) (K : PySem.W.Frag) (mg : Str → Option Value) (base : Heap) (CX : CXT) (k : Nat) (x : Str) (ps : List Str) (sp : Sp) : Prop :=
  ∃ f fd, mg x = some (.ref f) ∧ PySem.W.keepIn K (.ref f) = true ∧ Binds K fd ps [] ∧ FnOk P w K mg base CX k f fd ps sp
/-- a def of the top as it stands: the name it is called by, its own name -/
def At (K : PySem.W.Frag) (mg : Str → Option Value) (g x : Str) (st : Stmt) (ps : List Str) : Prop :=
  ∃ f fd, mg g = some (.ref f) ∧ Fun K x x st f fd ∧ Binds K fd ps []
section
variable {P : Program} {w : World} {K : PySem.W.Frag} {mg : Str → Option Value} {base : Heap}
theorem pcall {X : Cx} {CX : CXT} {k : Nat} {ps : List Str} {sp : Sp} {E : XK} {x : Str} {p pos : Pos} {e : Expr} {es : List Expr} {t : TA}
    (F : Ok X.prog X.w X.K X.mg X.base CX k x ps sp) (hr : Room k X.A) (hg : Gl X x) (hx : Passes CX X E)
    (ha : PA X (e :: es) t) (hdb : (x == ("__debug__" : Str)) = false := by decide) (he : starEach (e :: es) X.env = (false, eval e X.env) :: starEach es X.env := by rfl) (hpl : (backTo pos (starEach es X.env)).any (·.1) = false := by rfl) :
    PE X (.Call (.Name x p) (e :: es) [] pos) (tCall sp [] E t) := by
  obtain ⟨f, fd, hm, hk, hb, F⟩ := F
  exact pe_call F hr hg hm hk hb .nil hx ha hdb he hpl
theorem mkOk {g x : Str} {st : Stmt} {N ps : List Str} {k : Nat} {sp : Sp} (F : At K mg g x st ps) (S : FnScope N ps (defScope st)) (len : ∀ vs H Q E, sp vs H Q E → vs.length = ps.length)
    (hbody : ∀ (f : Addr) (cdv : Value) (A : Around) (outer : List Env) (s : Shared) (H : Hp) (vs : List V) (Q : VK) (E : XK), Room k (A.deeper (envOfC x (defScope st) s.heap.objs.size f cdv)) → sp vs H Q E →
      ∃ t, PSs (cxOf CX0 P w K mg base N x (defScope st) f cdv A outer s H E).nox (defBody st) t ∧ t { nx := fun _ H' => Q .non H', rt := Q } (L2.start N vs) H) : Ok P w K mg base CX0 (k + 1) g ps sp := by
  obtain ⟨f, fd, hm, F, hb⟩ := F
  exact ⟨f, fd, hm, F.kp, hb, F.ok S len fun cdv A outer s H vs Q E hr h => hbody f cdv A outer s H vs Q E hr h⟩
theorem Ok.up {x : Str} {ps : List Str} {sp : Sp} {CX : CXT} {j k : Nat} (F : Ok P w K mg base CX j x ps sp) (h : j ≤ k) : Ok P w K mg base CX k x ps sp := by
  obtain ⟨f, fd, hm, hk, hb, F⟩ := F
  exact ⟨f, fd, hm, hk, hb, F.mono h⟩
end
/-! ### heaps -/
theorem _root_.L2.Same.new {H : Hp} {p : Addr} {o : HO} (h : H p = none) : Same H (upd H p o) := fun b x e => by
  rw [upd_ne (ne_of_none e h)]
  exact e
/-- without these addresses -/
def hide (l : List Addr) (H : Hp) : Hp := fun b => if b ∈ l then none else H b
theorem hide_out {l : List Addr} {H : Hp} {b : Addr} (h : b ∉ l) : hide l H b = H b := by
  unfold hide
  rw [if_neg h]
theorem hide_some {l : List Addr} {H : Hp} {b : Addr} {o : HO} : hide l H b = some o ↔ b ∉ l ∧ H b = some o := by
  unfold hide
  by_cases h : b ∈ l
  · simp [h]
  · simp [h]
theorem hide_sub {l : List Addr} {H : Hp} : Same (hide l H) H := fun _ _ h => (hide_some.mp h).2
theorem _root_.L2.Same.hide {l : List Addr} {H H' : Hp} (h : Same H H') : Same (KB.hide l H) (KB.hide l H') := fun b o e => by
  obtain ⟨h1, h2⟩ := hide_some.mp e
  exact hide_some.mpr ⟨h1, h b o h2⟩
/-- what has come since H0 -/
def since (H0 H : Hp) : Hp := fun b => match H0 b with | none => H b | some _ => none
theorem since_some {H0 H : Hp} {b : Addr} {o : HO} : since H0 H b = some o ↔ H0 b = none ∧ H b = some o := by
  unfold since
  cases e : H0 b with
  | none => simp
  | some x => simp
theorem since_sub {H0 H : Hp} : Same (since H0 H) H := fun _ _ h => (since_some.mp h).2
/-- all but what stands at P is as it was -/
def Kp (P : Addr) (H H' : Hp) : Prop := ∀ b o, b ≠ P → H b = some o → H' b = some o
theorem Kp.refl {P : Addr} {H : Hp} : Kp P H H := fun _ _ _ h => h
theorem Kp.trans {P : Addr} {H H1 H2 : Hp} (a : Kp P H H1) (b : Kp P H1 H2) : Kp P H H2 := fun c o n h => b c o n (a c o n h)
theorem _root_.L2.Same.kp {P : Addr} {H H' : Hp} (h : Same H H') : Kp P H H' := fun b o _ e => h b o e
/-- the store at an address that H0 did not know -/
theorem Kp.mut {P p : Addr} {H0 H : Hp} {o : HO} (h : Kp P H0 H) (hp : H0 p = none) : Kp P H0 (upd H p o) := fun b x n e => by
  rw [upd_ne (ne_of_none e hp)]
  exact h b x n e
theorem Kp.at {P : Addr} {H : Hp} {o : HO} : Kp P H (upd H P o) := fun b x n e => by
  rw [upd_ne n]
  exact e
theorem _root_.L2.Same.mut {p : Addr} {H0 H : Hp} {o : HO} (h : Same H0 H) (hp : H0 p = none) : Same H0 (upd H p o) := fun b x e => by
  rw [upd_ne (ne_of_none e hp)]
  exact h b x e
theorem Kp.free {P p : Addr} {H0 H : Hp} (h : Kp P H0 H) (hP : H P ≠ none) (hp : H p = none) : H0 p = none := by
  cases e : H0 p with
  | none => rfl
  | some o =>
    by_cases n : p = P
    · subst n
      exact absurd hp hP
    · rw [h p o n e] at hp
      cases hp
/-! ### the law's pool of numbers -/
def PoolAt (P : Addr) (H : Hp) : Prop := ∃ (p : Nat) (r : List Int), H P = some (.lst (V.int (p : Int) :: r.map V.int)) ∧ 1 ≤ p ∧ p ≤ r.length ∧ r.length ≤ 5000
theorem PoolAt.ne {P : Addr} {H : Hp} (h : PoolAt P H) : H P ≠ none := by
  obtain ⟨p, r, e, _⟩ := h
  rw [e]
  exact fun z => nomatch z
/-- from H0 on just the pool at P has moved; other things have come -/
structure Pst (P : Addr) (H0 H : Hp) : Prop where
  kp : Kp P H0 H
  pool : PoolAt P H
theorem Pst.refl {P : Addr} {H : Hp} (h : PoolAt P H) : Pst P H H := ⟨Kp.refl, h⟩
theorem Pst.trans {P : Addr} {H H1 H2 : Hp} (a : Pst P H H1) (b : Pst P H1 H2) : Pst P H H2 := ⟨a.kp.trans b.kp, b.pool⟩
theorem Pst.free {P p : Addr} {H0 H : Hp} (h : Pst P H0 H) (hp : H p = none) : H0 p = none := h.kp.free h.pool.ne hp
theorem Pst.ne {P p : Addr} {H0 H : Hp} (h : Pst P H0 H) (hp : H p = none) : p ≠ P := fun e => by
  subst e
  exact h.pool.ne hp
theorem PoolAt.upd {P p : Addr} {H : Hp} {o : HO} (h : PoolAt P H) (n : p ≠ P) : PoolAt P (L2.upd H p o) := by
  obtain ⟨q, r, e, h⟩ := h
  exact ⟨q, r, by rw [upd_ne (Ne.symm n)]; exact e, h⟩
/-- a new thing -/
theorem Pst.new {P p : Addr} {H0 H : Hp} {o : HO} (h : Pst P H0 H) (hp : H p = none) : Pst P H0 (upd H p o) := ⟨h.kp.mut (h.free hp), h.pool.upd (h.ne hp)⟩
/-- a store at a thing that came since -/
theorem Pst.mut {P p : Addr} {H0 H : Hp} {o : HO} (h : Pst P H0 H) (hp : H0 p = none) (n : p ≠ P) : Pst P H0 (upd H p o) := ⟨h.kp.mut hp, h.pool.upd n⟩
theorem Pst.same {P : Addr} {H0 H H1 : Hp} (h : Pst P H0 H) (s : Same H H1) : Pst P H0 H1 := ⟨h.kp.trans s.kp, by
  obtain ⟨p, r, e, q⟩ := h.pool
  exact ⟨p, r, s _ _ e, q⟩⟩
/-- what came since, is as it was -/
theorem Pst.since {P : Addr} {H0 H H1 : Hp} (h0 : H0 P ≠ none) (h : Pst P H H1) : Same (KB.since H0 H) (KB.since H0 H1) := fun b o e => by
  obtain ⟨e1, e2⟩ := since_some.mp e
  refine since_some.mpr ⟨e1, h.kp b o (fun z => ?_) e2⟩
  subst z
  exact h0 e1
theorem Pst.since2 {P : Addr} {H0 H H1 : Hp} (h : Pst P H0 H) : Same (KB.since H H1) (KB.since H0 H1) := fun b o e => by
  obtain ⟨e1, e2⟩ := since_some.mp e
  exact since_some.mpr ⟨h.free e1, e2⟩
/-! ### data -/
inductive D where
  | non | bl (b : Bool) | int (i : Int) | str (l : List Nat) | tup (ds : List D) | lst (ds : List D)
mutual
def Rep (G : Hp) : D → V → Prop
  | .non, v => v = .non
  | .bl b, v => v = .bl b
  | .int i, v => v = .int i
  | .str l, v => v = .str (S l)
  | .tup ds, v => ∃ a xs, v = .ref a ∧ G a = some (.tup xs) ∧ Reps G ds xs
  | .lst ds, v => ∃ a xs, v = .ref a ∧ G a = some (.lst xs) ∧ Reps G ds xs
def Reps (G : Hp) : List D → List V → Prop
  | [], xs => xs = []
  | d :: ds, xs => ∃ x r, xs = x :: r ∧ Rep G d x ∧ Reps G ds r
end
mutual
theorem Rep.mono {G G' : Hp} (h : Same G G') : ∀ {d : D} {v : V}, Rep G d v → Rep G' d v
  | .non, _, e => e
  | .bl _, _, e => e
  | .int _, _, e => e
  | .str _, _, e => e
  | .tup _, _, ⟨a, xs, e, e2, r⟩ => ⟨a, xs, e, h _ _ e2, Reps.mono h r⟩
  | .lst _, _, ⟨a, xs, e, e2, r⟩ => ⟨a, xs, e, h _ _ e2, Reps.mono h r⟩
theorem Reps.mono {G G' : Hp} (h : Same G G') : ∀ {ds : List D} {xs : List V}, Reps G ds xs → Reps G' ds xs
  | [], _, e => e
  | _ :: _, _, ⟨x, r, e, e1, e2⟩ => ⟨x, r, e, Rep.mono h e1, Reps.mono h e2⟩
end
theorem Reps.length {G : Hp} : ∀ {ds : List D} {xs : List V}, Reps G ds xs → xs.length = ds.length
  | [], _, e => by
    have e : _ = [] := e
    rw [e]
    rfl
  | _ :: _, _, ⟨x, r, e, _, e2⟩ => by
    rw [e, List.length_cons, List.length_cons, Reps.length e2]
theorem Reps.get {G : Hp} : ∀ {ds : List D} {xs : List V} {i : Nat} {x : V}, Reps G ds xs → xs[i]? = some x → ∃ d, ds[i]? = some d ∧ Rep G d x
  | [], _, i, x, e, h => by
    have e : _ = [] := e
    rw [e] at h
    cases h
  | d :: _, _, 0, x, ⟨y, r, e, e1, _⟩, h => by
    rw [e] at h
    have h : y = x := Option.some.inj h
    exact ⟨d, rfl, h ▸ e1⟩
  | d :: ds, _, i + 1, x, ⟨y, r, e, _, e2⟩, h => by
    rw [e] at h
    exact Reps.get (i := i) e2 h
theorem Reps.snoc {G : Hp} : ∀ {ds : List D} {xs : List V} {d : D} {x : V}, Reps G ds xs → Rep G d x → Reps G (ds ++ [d]) (xs ++ [x])
  | [], _, d, x, e, h => by
    have e : _ = [] := e
    rw [e]
    exact ⟨x, [], rfl, h, rfl⟩
  | _ :: _, _, d, x, ⟨y, r, e, e1, e2⟩, h => by
    rw [e]
    exact ⟨y, r ++ [x], rfl, e1, Reps.snoc e2 h⟩
theorem Reps.append {G : Hp} : ∀ {ds es : List D} {xs ys : List V}, Reps G ds xs → Reps G es ys → Reps G (ds ++ es) (xs ++ ys)
  | [], _, _, _, e, h => by
    have e : _ = [] := e
    rw [e]
    exact h
  | _ :: _, _, _, _, ⟨y, r, e, e1, e2⟩, h => by
    rw [e]
    exact ⟨y, r ++ _, rfl, e1, Reps.append e2 h⟩
theorem reps_strs {G : Hp} : ∀ {ls : List (List Nat)}, Reps G (ls.map .str) (ls.map fun l => V.str (S l))
  | [] => rfl
  | _ :: _ => ⟨_, _, rfl, rfl, reps_strs⟩
theorem of_reps_strs {G : Hp} : ∀ {ls : List (List Nat)} {xs : List V}, Reps G (ls.map .str) xs → xs = ls.map fun l => V.str (S l)
  | [], _, e => e
  | _ :: _, _, ⟨x, r, e, e1, e2⟩ => by
    have e1 : x = _ := e1
    rw [e, e1, of_reps_strs e2]
    rfl
end KB
namespace KB
open PySem PySem.Spec PyProof.Rows L2
section
variable {K : PySem.W.Frag}
theorem isi {x : V} {H : Hp} {Q : VK} {n m : String} {b : Bool} (h : TyOf K H x (.type m)) (k : PySem.W.kitOne K (.type m) (.type n) = some b) (q : Q (.bl b) H) : rIsi K [x, .ty n] H Q :=
  ⟨x, .ty n, .type m, .type n, b, rfl, .ty n, .base h, k, q⟩
end
end KB
namespace KB
open PySem PySem.Spec PyProof.Rows L2
def rIntI (xs : List V) (H : Hp) (Q : VK) : Prop := ∃ i, xs = [.int i] ∧ Q (.int i) H
def rIntB (xs : List V) (H : Hp) (Q : VK) : Prop := ∃ k, xs = [.bl k] ∧ Q (.int (if k then 1 else 0)) H
theorem call_intI {X : Cx} : CallR X (.type "int") rIntI := fun pins s σ H xs us Q I r h => call_int1 pins s σ H xs us Q I r (.inl h)
theorem call_intB {X : Cx} : CallR X (.type "int") rIntB := fun pins s σ H xs us Q I r h => call_int1 pins s σ H xs us Q I r (.inr h)
theorem ixN_in {n j : Nat} (h : j < n) : ixN n (j : Int) = some j := by
  unfold ixN
  rw [if_pos (by omega), if_pos (by omega)]
  simp
end KB
namespace KB
open PySem PySem.Spec PyProof.Rows L2
/-- a list compared with an empty one -/
def rEqE (K : PySem.W.Frag) : R2 := fun x y H Q => ∃ a b xs, x = .ref a ∧ y = .ref b ∧ SqL K H a xs ∧ SqL K H b [] ∧ Q (.bl xs.isEmpty) H
def rNeE (K : PySem.W.Frag) : R2 := fun x y H Q => ∃ a b xs, x = .ref a ∧ y = .ref b ∧ SqL K H a xs ∧ SqL K H b [] ∧ Q (.bl (!xs.isEmpty)) H
theorem op_eqE {X : Cx} (hu : X.A.units < cLine) : OpR X (compareOp .Eq) (rEqE X.K) := by
  intro pins s σ H x y v u Q I rx ry h
  obtain ⟨a, b, xs, rfl, rfl, ha, hb, q⟩ := h
  cases rx
  cases ry
  obtain ⟨its, rv, p, _⟩ := I.list ha
  obtain ⟨its2, rv2, p2, _⟩ := I.list hb
  cases rv2
  cases xs with
  | nil =>
    cases rv
    exact SeqAt.eq_listAt (e := fun _ => true) p.isList p2.isList rfl hu (fun j h1 => absurd h1 (Nat.not_lt_zero j)) ⟨.bl true, H, I, rfl, q⟩
  | cons x xs =>
    have hl := rv.length
    refine SeqAt.eq_list_lengthsAt p.isList p2.isList ?_ hu ⟨.bl false, H, I, rfl, q⟩
    rw [List.length_cons] at hl
    have hz : its.toArray.size ≠ ([] : List Value).toArray.size := by
      rw [List.size_toArray, ← hl]
      exact Nat.succ_ne_zero _
    exact bne_iff_ne.mpr hz
theorem op_neE {X : Cx} (hu : X.A.units < cLine) : OpR X (compareOp .NotEq) (rNeE X.K) := by
  intro pins s σ H x y v u Q I rx ry h
  obtain ⟨a, b, xs, rfl, rfl, ha, hb, q⟩ := h
  cases rx
  cases ry
  obtain ⟨its, rv, p, _⟩ := I.list ha
  obtain ⟨its2, rv2, p2, _⟩ := I.list hb
  cases rv2
  cases xs with
  | nil =>
    cases rv
    exact SeqAt.RcNeAt.lists (e := fun _ => true) p.isList p2.isList rfl hu (fun j h1 => absurd h1 (Nat.not_lt_zero j)) _ _ _ _ ⟨.bl false, H, I, rfl, q⟩
  | cons x xs =>
    have hl := rv.length
    refine SeqAt.RcNeAt.lists_lengths p.isList p2.isList ?_ hu _ _ _ _ ⟨.bl true, H, I, rfl, q⟩
    rw [List.length_cons] at hl
    have hz : its.toArray.size ≠ ([] : List Value).toArray.size := by
      rw [List.size_toArray, ← hl]
      exact Nat.succ_ne_zero _
    exact bne_iff_ne.mpr hz
end KB
namespace KB
open PySem PySem.Spec PyProof.Rows L2
section
variable {X : Cx} {K : PySem.W.Frag}
theorem ix_listK (h : X.K = K) : IxR X (rIxL K) := h ▸ ix_list
theorem ix_tupK (h : X.K = K) : IxR X (rIxT K) := h ▸ ix_tup
theorem ix_seqK (h : X.K = K) : IxR X (rIx K) := h ▸ ix_seq
theorem sl_listK (h : X.K = K) : SlR X (rSlL K) := h ▸ sl_list
def rLenS (K : PySem.W.Frag) (xs : List V) (H : Hp) (Q : VK) : Prop := ∃ p ys, xs = [.ref p] ∧ (SqL K H p ys ∨ SqT K H p ys) ∧ Q (.int (ys.length : Nat)) H
theorem call_len_seqK (h : X.K = K) : CallR X (.builtin "len") (rLenS K) := h ▸ call_len_seq
theorem call_isiK' (h : X.K = K) : CallR X (.builtin "isinstance") (rIsi K) := h ▸ call_isi
theorem op_in_seqK (h : X.K = K) : OpR X (compareOp .In) (rIn K false) := h ▸ op_in_seq
theorem op_notIn_seqK (h : X.K = K) : OpR X (compareOp .NotIn) (rIn K true) := h ▸ op_notIn_seq
theorem pg_tupK {es : List Expr} {k : Nat} {t : TGs} {n : Nat} {pos : Pos} (hK : X.K = K) (hc : X.calm = true) (h : PGs X es t)
    (hn : (assignEach es X.env).length = n := by rfl) (hst : (assignEach es X.env).findIdx? (·.1) = none := by rfl) : PG X (.Tuple es k pos) (gTup K n t) := hK ▸ pg_tup hc h hn hst
theorem pi_listK {tg l : Expr} {tl : TE} (h : X.K = K) (hl : PE X l tl) : PI X tg l (iList K tl) := h ▸ pi_list hl
end
end KB

/-! ### zip of a tuple and a list -/
namespace KB
open PySem PySem.Spec PyProof.Rows L2
def ItzM (K : PySem.W.Frag) (a b : Addr) : It where
  go i H := ∃ xs ys x y, SqT K H a xs ∧ SqL K H b ys ∧ xs[i]? = some x ∧ ys[i]? = some y
  yld i H v H' := ∃ T x y, v = .ref T ∧ H T = none ∧ H' = upd H T (.tup [x, y]) ∧ (∀ xs, SqT K H a xs → xs[i]? = some x) ∧ ∀ ys, SqL K H b ys → ys[i]? = some y
  stop i H := ∃ xs ys, SqT K H a xs ∧ SqL K H b ys ∧ i = min xs.length ys.length
/-- where the five cells of the zip stand at turn i -/
def ZipTn (a b z TI TO i1 i2 : Addr) (i : Nat) (h : Heap) : Prop :=
  IsZip h z TI TO .none ∧ IsTupOf2 h TI (.ref i1) (.ref i2) ∧ (∃ c d, IsTupOf2 h TO c d) ∧ h.IsTupleIter i1 a i ∧ h.IsListIter i2 b i
theorem five {z TI TO i1 i2 c : Addr} {φ : Addr → Prop} (h : c ∈ [z, TI, TO, i1, i2]) (h1 : φ z) (h2 : φ TI) (h3 : φ TO) (h4 : φ i1) (h5 : φ i2) : φ c := by
  simp only [List.mem_cons, List.not_mem_nil, or_false] at h
  rcases h with e | e | e | e | e <;> (rw [e]; assumption)
theorem turn_zipM {P : Program} {w : World} {K : PySem.W.Frag} {elts : List Expr} {kk : Nat} {tpos : Pos} {a b z TI TO i1 i2 : Addr} (S : ZipSep2 z TI TO i1 i2 [i1, a] [i2, b]) (ha : a ≠ i1) (hb : b ≠ i2) :
    Turn P w K (.Tuple elts kk tpos) (ItzM K a b) [z, TI, TO, i1, i2] z (ZipTn a b z TI TO i1 i2) where
  mem := List.mem_cons_self
  obj i h st c hc := by
    obtain ⟨hz, hTI, ⟨x, y, hTO⟩, ⟨o1, e1, _, d1⟩, ⟨o2, e2, _, d2⟩⟩ := st
    refine five (φ := fun c => ∃ o, h.get? c = some o ∧ ∀ v, o.data ≠ .cell v) hc ⟨_, hz, nofun⟩ ⟨_, hTI, nofun⟩ ⟨_, hTO, nofun⟩ ⟨o1, e1, fun v q => ?_⟩ ⟨o2, e2, fun v q => ?_⟩
    · rw [d1] at q
      cases q
    · rw [d2] at q
      cases q
  keep i h h' st k := by
    obtain ⟨hz, hTI, ⟨x, y, hTO⟩, h1, h2⟩ := st
    have k' : ∀ c, c ∈ [z, TI, TO, i1, i2] → ∀ o, h.get? c = some o → h'.get? c = some o := k
    exact ⟨k' z (by simp) _ hz, k' TI (by simp) _ hTI, ⟨x, y, k' TO (by simp) _ hTO⟩, h1.at (k' i1 (by simp)), h2.at (k' i2 (by simp))⟩
  item := by
    intro X hP hw hK hc i pins s σ H E I hf st hg
    subst hP hw hK
    obtain ⟨hz, hTI, hTO, h1, h2⟩ := st
    obtain ⟨xs, ys, x, y, hqx, hqy, hx, hy⟩ := hg
    obtain ⟨its, rv, p, _⟩ := I.tuple hqx
    obtain ⟨its2, rv2, p2, _⟩ := I.list hqy
    obtain ⟨u, hu, ru⟩ := rv.get hx
    obtain ⟨u2, hu2, ru2⟩ := rv2.get hy
    have hh : X.A.in1.handled = none := I.ok.hd hc
    have hlt : i < min its.toArray.size its2.toArray.size := by
      have q1 := (List.getElem?_eq_some_iff.mp hu).1
      have q2 := (List.getElem?_eq_some_iff.mp hu2).1
      rw [List.size_toArray, List.size_toArray]
      omega
    have W := WalksT.zipD2 (prog := X.prog) (w := X.w) (A := X.A) S (Draws.tuple hh i1 a ha its.toArray) (Draws.list hh i2 b hb its2.toArray)
    refine W.item i s _ E hlt ⟨hz, hTI, hTO, ⟨h1, p⟩, ⟨h2, p2.isList⟩⟩ fun T vals h' tk hP hsz hT hm hk => ⟨.ref T, rfl, W.go elts kk tpos i T _ _ E hm fun h'' st'' hk'' => ?_⟩
    obtain ⟨x1, x2, e1, e2, ev⟩ := hP
    have e1 : its.toArray[i]? = some x1 := e1
    have e2 : its2.toArray[i]? = some x2 := e2
    have e1' : x1 = u := by
      rw [List.getElem?_toArray, hu] at e1
      exact (Option.some.inj e1).symm
    have e2' : x2 = u2 := by
      rw [List.getElem?_toArray, hu2] at e2
      exact (Option.some.inj e2).symm
    rw [e1', e2'] at ev
    rw [ev] at hT
    have hTn := W.apart i T h' hm
    have hT2 : h''.IsTuple T #[u, u2] := hT.at fun o q => hk'' T o hTn q
    have new : ObjOk X.prog X.w (upd H T (.tup [x, y])) h'' T (.tup [x, y]) := ⟨sz5 (by simp), [u, u2], .cons ru (.cons ru2 .nil), hT2⟩
    have sub : ∀ c, c ∈ [z, TO, i1, i2] → c ∈ [z, TI, TO, i1, i2] := fun c hc => by
      simp only [List.mem_cons, List.not_mem_nil, or_false] at hc ⊢
      rcases hc with q | q | q | q <;> simp [q]
    have I2 : Inv X pins σ (upd H T (.tup [x, y])) { s with heap := h'', toks := tk } :=
      I.turnedNew (ch := [z, TO, i1, i2]) (fun c o hb q => hk'' c o hb (hk c o hb q)) (fun c hc => hf c (sub c hc)) hsz new
    obtain ⟨g1, g2, g3, g4, g5⟩ := st''
    refine ⟨.ref T, _, I2, rfl, ⟨T, x, y, rfl, I.hok.fresh hsz, rfl, fun l hl => ?_, fun l hl => ?_⟩, ⟨g1, g2, g3, g4.1, g5.1⟩, fun c hcm => ?_⟩
    · rw [I.tuple_inj hl hqx]
      exact hx
    · rw [I.list_inj hl hqy]
      exact hy
    · have hcl : c < s.heap.objs.size := by
        obtain ⟨x, y, hTO⟩ := hTO
        obtain ⟨_, q1, _⟩ := h1
        obtain ⟨_, q2, _⟩ := h2
        exact five (φ := fun c => c < s.heap.objs.size) hcm (Heap.lt_size hz) (Heap.lt_size hTI) (Heap.lt_size hTO) (Heap.lt_size q1) (Heap.lt_size q2)
      rw [upd_ne (Nat.ne_of_lt (Nat.lt_of_lt_of_le hcl hsz))]
      exact (hf c hcm).1
  done := by
    intro X hP hw hK hc i pins s σ H E I hf st hg
    subst hP hw hK
    obtain ⟨hz, hTI, hTO, h1, h2⟩ := st
    obtain ⟨xs, ys, hqx, hqy, hi⟩ := hg
    obtain ⟨its, rv, p, _⟩ := I.tuple hqx
    obtain ⟨its2, rv2, p2, _⟩ := I.list hqy
    have hh : X.A.in1.handled = none := I.ok.hd hc
    have W := WalksT.zipD2 (prog := X.prog) (w := X.w) (A := X.A) S (Draws.tuple hh i1 a ha its.toArray) (Draws.list hh i2 b hb its2.toArray)
    have hn : i = min its.toArray.size its2.toArray.size := by
      rw [List.size_toArray, List.size_toArray, ← rv.length, ← rv2.length]
      exact hi
    subst hn
    have sub : ∀ c, c ∈ [z, TO, i1, i2] → c ∈ [z, TI, TO, i1, i2] := fun c hc => by
      simp only [List.mem_cons, List.not_mem_nil, or_false] at hc ⊢
      rcases hc with q | q | q | q <;> simp [q]
    exact W.done s _ E ⟨hz, hTI, hTO, ⟨h1, p⟩, ⟨h2, p2.isList⟩⟩ fun h' tk hk => ⟨rfl, I.turnedL (ch := [z, TO, i1, i2]) (fun c o hb q => hk c o hb q) fun c hc => hf c (sub c hc)⟩
  self A i s Q E st h := wpAny_pyIter_zip st.1 h
def iZipM (K : PySem.W.Frag) (ta : TA) : TI := fun σ H R => ta σ H fun vs H1 => ∃ a b xs ys, vs = [.ref a, .ref b] ∧ SqT K H1 a xs ∧ SqL K H1 b ys ∧ R (ItzM K a b) H1
theorem pi_zipM {X : Cx} {e e2 : Expr} {ta : TA} {p pos tpos : Pos} {elts : List Expr} {kk : Nat} (hg : Gl X "zip") (hm : X.mg "zip" = none) (ha : PA X [e, e2] ta)
    (hs : starEach [e, e2] X.env = (false, eval e X.env) :: starEach [e2] X.env := by rfl) (hpl : (backTo pos (starEach [e2] X.env)).any (·.1) = false := by rfl) :
    PI X (.Tuple elts kk tpos) (.Call (.Name "zip" p) [e, e2] [] pos) (iZipM X.K ta) := by
  constructor
  intro pins s σ H R I h
  refine Call_ (ld_blt I hg hm boot_zip (callWith_type1 (thn (ha.run pos pins s σ H _ I h) fun us s1 z => ?_) hs hpl))
  obtain ⟨vs, H1, I1, r1, a, b, xs, ys, ex, hqx, hqy, q⟩ := z
  subst ex
  obtain ⟨u1, u2, eu, ra, rb⟩ : ∃ u1 u2, us = [u1, u2] ∧ RelV (.ref a) u1 ∧ RelV (.ref b) u2 := by
    cases r1 with
    | cons r rr =>
      cases rr with
      | cons r' rr =>
        cases rr
        exact ⟨_, _, rfl, r, r'⟩
  subst eu
  cases ra
  cases rb
  obtain ⟨its, rv, p1, _⟩ := I1.tuple hqx
  obtain ⟨its2, rv2, p2, _⟩ := I1.list hqy
  have p1 : s1.heap.IsTuple a its.toArray := p1
  have la : a < s1.heap.objs.size := by
    obtain ⟨o, e, _⟩ := p1
    exact Heap.lt_size e
  have lb : b < s1.heap.objs.size := p2.lt
  refine zip_begins2 (begins_tuple a its.toArray) (begins_list b its2.toArray) p1 p2.isList fun h' hz hTI hTO e1 e2 hsz hk => wpAny_pyIter_zip hz ?_
  have I2 : Inv X pins σ H1 { s1 with heap := h' } := I1.kept (t' := s1.toks) hk
  have S := zip_sep2 (N := s1.heap.objs.size) (fp1 := [a]) (fp2 := [b]) (fun c hc => by rw [List.mem_singleton.mp hc]; exact la) (fun c hc => by rw [List.mem_singleton.mp hc]; exact lb)
  refine ⟨_, [s1.heap.objs.size + 4, s1.heap.objs.size + 2, s1.heap.objs.size + 3, s1.heap.objs.size, s1.heap.objs.size + 1], ZipTn a b _ _ _ _ _, _, H1, rfl, I2, turn_zipM S (Nat.ne_of_lt la) (Nat.ne_of_lt (Nat.lt_succ_of_lt lb)), ⟨hz, hTI, ⟨_, _, hTO⟩, ⟨_, e1, rfl, rfl⟩, ⟨_, e2, rfl, rfl⟩⟩, fun c hcm => ?_, q⟩
  have hle : s1.heap.objs.size ≤ c := five (φ := fun c => s1.heap.objs.size ≤ c) hcm (Nat.le_add_right _ _) (Nat.le_add_right _ _) (Nat.le_add_right _ _) (Nat.le_refl _) (Nat.le_add_right _ _)
  exact I1.fpOk hle (I1.hok.fresh hle)
theorem walk_zipM {K : PySem.W.Frag} {a b : Addr} {xs ys : List V} {n : Nat} (hn : n = min xs.length ys.length) : Walk (ItzM K a b) n (fun H => SqT K H a xs ∧ SqL K H b ys) (YPair (fun i => xs[i]?) (fun i => ys[i]?)) := by
  subst hn
  refine ⟨fun i _ hi q => ?_, fun _ q => ⟨xs, ys, q.1, q.2, rfl⟩, fun i H v H' _ q y => ?_⟩
  · have h1 : i < xs.length := by omega
    have h2 : i < ys.length := by omega
    exact ⟨xs, ys, xs[i], ys[i], q.1, q.2, List.getElem?_eq_getElem h1, List.getElem?_eq_getElem h2⟩
  · obtain ⟨T, x, y, h1, h2, h3, h4, h5⟩ := y
    exact ⟨T, x, y, h1, h2, h3, h4 xs q.1, h5 ys q.2⟩
end KB

/-! ### replace on a joined text; a text times a number -/
namespace KB
open PySem PySem.Spec PyProof.Rows L2
def PE1 (X : Cx) (e : Expr) (t : TE) : Prop :=
  ∀ (pins : List (Addr × Obj)) (s : Shared) (σ : L2.St) (H : Hp) (Q : VK), Inv X pins σ H s → t σ H Q → wpAny (model X.prog X.w) X.A (eval e X.env) (fun v s' => 1 ≤ s'.toks ∧ EP X pins σ Q v s') X.xe s
section
variable {X : Cx} {o e : Expr} {to te : TE} {y z : Str} {j k : Nat} {c0 c1 apos pos : Pos}
theorem pe1_join {c : Str} {jc : Nat} {pc : Pos} (he : PE X e te) (hs : starEach [e] X.env = [(false, eval e X.env)] := by rfl)
    (hbase : attributeBase (.Constant (.str c) jc pc) "join" X.env (eval (.Constant (.str c) jc pc) X.env) = eval (.Constant (.str c) jc pc) X.env := by rfl) (hline : (apos.endLine == pos.line) = true := by rfl) :
    PE1 X (.Call (.Attribute (.Constant (.str c) jc pc) "join" apos) [e] [] pos) (tM1 (fun x xs H Q => ∃ a p, ∃ ys : List Str, x = .str a ∧ xs = [.ref p] ∧ (SqL X.K H p (ys.map V.str) ∨ SqT X.K H p (ys.map V.str)) ∧
      (ys.map (·.length)).sum + ys.length * a.length ≤ 16777216 ∧ Q (.str (Txt.join a ys)) H) (tC (.str c)) te) := by
  intro pins s σ H Q I h
  obtain ⟨_, h⟩ := h
  refine PySem.Call_method1 hbase hs hline (Calls.Constant_str ?_)
  have I1 := I.tok (s.toks + 1)
  refine ⟨"str", _, F.plainAttrs_str, F.slot_str_join, F.type_str_join, typeIs_str _ _ _, (fun _ e => nomatch e), Calls.callWith_builtin rfl (Calls.evalArgs_plain (Calls.spliced_cons ?_))⟩
  refine wpAny_mono (PySem.wpAny_toks_of (n := 1) (Nat.succ_le_succ (Nat.zero_le _)) (he.run pins _ σ H _ I1 h)) (fun u s2 hh => ?_) fun _ _ z => z.2
  obtain ⟨hk, v2, H2, I2, r2, q2⟩ := hh
  exact Calls.spliced_nil (wpAny_mono (PySem.wpAny_toks_of hk (mt_join pins s2 σ H2 (.str c) [v2] (.str c s.toks) [u] Q I2 ⟨s.toks, rfl⟩ (.cons r2 .nil) q2)) (fun _ _ z => z) fun _ _ z => z.2)
theorem pe_replC1 (ho : PE1 X o to) (hyz : (y == z) = false := by decide)
    (hst : starEach [.Constant (.str y) j c0, .Constant (.str z) k c1] X.env = [(false, eval (.Constant (.str y) j c0) X.env), (false, eval (.Constant (.str z) k c1) X.env)] := by rfl)
    (hbase : attributeBase o "replace" X.env (eval o X.env) = eval o X.env := by rfl) (hline : (apos.endLine == pos.line) = true := by rfl) :
    PE X (.Call (.Attribute o "replace" apos) [.Constant (.str y) j c0, .Constant (.str z) k c1] [] pos) (CwR.tReplC to y z) := by
  refine ⟨fun pins s σ H Q I h => ?_⟩
  refine PySem.Call_method2 hbase hst hline (thn (ho pins s σ H _ I h) fun v s1 q => ?_)
  obtain ⟨hk, v', H1, I1, r1, x, e1, hb, q⟩ := q
  subst e1
  obtain ⟨tx, e2⟩ := r1
  subst e2
  refine ⟨"str", _, PySem.F.plainAttrs_str, PySem.F.slot_str_replace, PySem.F.type_str_replace, typeIs_str _ _ _, (fun _ e => nomatch e), Calls.callWith_builtin rfl (Calls.evalArgs_plain (Calls.spliced_cons ?_))⟩
  refine Calls.Constant_str (Calls.spliced_cons (Calls.Constant_str (Calls.spliced_nil ?_)))
  exact PySem.SC.replace (by show s1.toks ≠ 0; omega) (by show s1.toks + 1 ≠ 0; omega) (by show s1.toks ≠ s1.toks + 1; omega) hyz hb fun t' k => ⟨.str (Txt.replace x y z), H1, I1.tok k, ⟨t', rfl⟩, q⟩
end
/-- one sign for another -/
theorem repl_one (l : List Nat) (a b : Nat) : Txt.replace (S l) (S [a]) (S [b]) = S (l.map fun c => if c = a then b else c) := by
  have h := StrLaws.replace_list (x := S l) (y := S [a]) (z := S [b]) (Nat.le_refl 1)
  have e : ∀ l : List Nat, StrLaws.replL [a] [b] l = l.map fun c => if c = a then b else c := fun l => by
    induction l with
    | nil => exact StrLaws.replL_nil
    | cons c r ih =>
      by_cases hc : c = a
      · subst hc
        rw [StrLaws.replL_hit (by simp) (by simp), List.map_cons, if_pos rfl]
        show [b] ++ StrLaws.replL [c] [b] r = _
        rw [ih]
        rfl
      · rw [StrLaws.replL_miss (by simpa using hc), List.map_cons, if_neg hc, ih]
  have h2 : (Txt.replace (S l) (S [a]) (S [b])).cps.toList = l.map fun c => if c = a then b else c := h.trans (e l)
  show Txt.replace (S l) (S [a]) (S [b]) = ⟨(l.map fun c => if c = a then b else c).toArray⟩
  rw [← h2, Array.toArray_toList]
theorem fold_app (L : List (Array Nat)) : ∀ acc : Array Nat, (L.foldl (· ++ ·) acc).toList = acc.toList ++ (L.map Array.toList).flatten := by
  induction L with
  | nil => intro acc; simp
  | cons a L ih =>
    intro acc
    rw [List.foldl_cons, ih, Array.toList_append, List.map_cons, List.flatten_cons, List.append_assoc]
def timesL (l : List Nat) (n : Nat) : List Nat := (List.replicate n l).flatten
theorem timesL_len (l : List Nat) (n : Nat) : (timesL l n).length = n * l.length := by
  induction n with
  | zero => simp [timesL]
  | succ n ih =>
    unfold timesL at ih ⊢
    rw [List.replicate_succ, List.flatten_cons, List.length_append, ih, Nat.add_mul, Nat.one_mul, Nat.add_comm]
def rMulS : R2 := fun x y H Q => ∃ (l : List Nat) (n : Nat), x = .str (S l) ∧ y = .int (n : Int) ∧ 2 ≤ n ∧ n ≤ 10000 ∧ 1 ≤ l.length ∧ l.length ≤ 100 ∧ Q (.str (S (timesL l n))) H
theorem op_mulS {X : Cx} : OpR X (binaryOp .Mult) rMulS := by
  intro pins s σ H x y v u Q I rx ry h
  obtain ⟨l, n, rfl, rfl, h2, h3, h4, h5, q⟩ := h
  obtain ⟨t, rfl⟩ := rx
  obtain ⟨t', rfl⟩ := ry
  have hn1 : ¬ ((n : Int) < 1) := by omega
  have hn2 : ((n : Int) == 1 || (S l).length == 0) = false := by
    have e1 : ((n : Int) == 1) = false := by
      rw [beq_eq_false_iff_ne]
      omega
    have e2 : ((S l).length == 0) = false := by
      rw [beq_eq_false_iff_ne, S_len]
      omega
    rw [e1, e2]
    rfl
  refine P.mul_str ?_ (fun _ _ => ?_) (fun _ _ => ?_) ?_
  · rw [decide_eq_false (by omega), decide_eq_false (by omega)]
    rfl
  · have e : (100 : Int) ≤ (2 ^ 63 - 1) / (n : Int) := by
      refine Int.le_ediv_of_mul_le (by omega) ?_
      have : (100 : Int) * (n : Int) ≤ 100 * 10000 := by omega
      omega
    rw [S_len]
    omega
  · have e : (S l).length * (n : Int).toNat ≤ 100 * 10000 := Nat.mul_le_mul (by rw [S_len]; exact h5) (by omega)
    unfold Builtin.Str.tooLong
    rw [decide_eq_false_iff_not]
    have := sz5 (n := 1000000) (Nat.le_refl _)
    omega
  · rw [if_neg hn1, if_neg (by rw [hn2]; exact fun z => nomatch z)]
    have e : (⟨(List.replicate (n : Int).toNat (S l).cps).foldl (· ++ ·) #[]⟩ : Str) = S (timesL l n) := by
      have := fold_app (List.replicate (n : Int).toNat (S l).cps) #[]
      show (⟨_⟩ : Str) = ⟨(timesL l n).toArray⟩
      congr 1
      rw [← Array.toArray_toList (xs := List.foldl _ _ _), this]
      congr 1
      simp [timesL]
    rw [e]
    refine ⟨?_, .str _, H, I.tok _, ⟨_, rfl⟩, q⟩
    have e : (timesL l n).length ≤ 10000 * 100 := by
      rw [timesL_len]
      exact Nat.mul_le_mul h3 h5
    exact sz5 (by rw [S_len]; omega)
end KB

namespace K92
open PySem PySem.Spec PyProof.Rows L2 KB
def topS (i : Nat) : Stmt := PySem.Challenge.pw_pageseen_k92_floats_that_stand_no_higher.main.body.getD i (.Pass ⟨0, 0, 0, 0⟩)
abbrev sIsNumber : Stmt := topS 4
theorem scIsNumber : FnScope ["value", "low", "high"] ["value", "low", "high"] (defScope sIsNumber) := ⟨rfl, rfl, rfl, by decide +kernel, rfl, by decide +kernel, by decide +kernel⟩
abbrev sIsWholeBeside : Stmt := topS 8
theorem scIsWholeBeside : FnScope ["value"] ["value"] (defScope sIsWholeBeside) := ⟨rfl, rfl, rfl, by decide +kernel, rfl, by decide +kernel, by decide +kernel⟩
abbrev sIsCount : Stmt := topS 10
theorem scIsCount : FnScope ["value"] ["value"] (defScope sIsCount) := ⟨rfl, rfl, rfl, by decide +kernel, rfl, by decide +kernel, by decide +kernel⟩
abbrev sIsFloat : Stmt := topS 11
theorem scIsFloat : FnScope ["value", "number"] ["value"] (defScope sIsFloat) := ⟨rfl, rfl, rfl, by decide +kernel, rfl, by decide +kernel, by decide +kernel⟩
abbrev sAreFloats : Stmt := topS 12
theorem scAreFloats : FnScope ["value", "k", "one"] ["value"] (defScope sAreFloats) := ⟨rfl, rfl, rfl, by decide +kernel, rfl, by decide +kernel, by decide +kernel⟩
abbrev sBetween : Stmt := topS 13
theorem scBetween : FnScope ["floats", "low", "high", "row", "left", "right", "side", "begin", "end", "top", "bottom"] ["floats", "low", "high", "row"] (defScope sBetween) := ⟨rfl, rfl, rfl, by decide +kernel, rfl, by decide +kernel, by decide +kernel⟩
abbrev sGoesIn : Stmt := topS 14
theorem scGoesIn : FnScope ["floats", "low", "high", "row", "wide", "left", "right"] ["floats", "low", "high", "row", "wide"] (defScope sGoesIn) := ⟨rfl, rfl, rfl, by decide +kernel, rfl, by decide +kernel, by decide +kernel⟩
abbrev sFirstRowBeside : Stmt := topS 15
theorem scFirstRowBeside : FnScope ["floats", "low", "high", "start", "wide", "row", "one"] ["floats", "low", "high", "start", "wide"] (defScope sFirstRowBeside) := ⟨rfl, rfl, rfl, by decide +kernel, rfl, by decide +kernel, by decide +kernel⟩
abbrev sFloatPlace : Stmt := topS 17
theorem scFloatPlace : FnScope ["floats", "low", "high", "start", "wide", "side", "row", "left", "right", "one"] ["floats", "low", "high", "start", "wide", "side"] (defScope sFloatPlace) := ⟨rfl, rfl, rfl, by decide +kernel, rfl, by decide +kernel, by decide +kernel⟩
abbrev sCheckRoom : Stmt := topS 19
theorem scCheckRoom : FnScope ["floats", "width", "row"] ["floats", "width", "row"] (defScope sCheckRoom) := ⟨rfl, rfl, rfl, by decide +kernel, rfl, by decide +kernel, by decide +kernel⟩
abbrev sFloatAt : Stmt := topS 20
theorem scFloatAt : FnScope ["floats", "width", "ceiling", "w", "side"] ["floats", "width", "ceiling", "w", "side"] (defScope sFloatAt) := ⟨rfl, rfl, rfl, by decide +kernel, rfl, by decide +kernel, by decide +kernel⟩
abbrev sFirstRowPapers : Stmt := topS 22
theorem scFirstRowPapers : FnScope ["floats", "ceiling"] ["floats", "ceiling"] (defScope sFirstRowPapers) := ⟨rfl, rfl, rfl, by decide +kernel, rfl, by decide +kernel, by decide +kernel⟩
abbrev sLeavesLess : Stmt := topS 24
theorem scLeavesLess : FnScope ["one", "width", "side", "left", "right", "top", "bottom"] ["one", "width"] (defScope sLeavesLess) := ⟨rfl, rfl, rfl, by decide +kernel, rfl, by decide +kernel, by decide +kernel⟩
abbrev sTightest : Stmt := topS 25
theorem scTightest : FnScope ["floats", "width", "row", "best", "number", "one", "side", "left", "right", "top", "bottom", "other"] ["floats", "width", "row"] (defScope sTightest) := ⟨rfl, rfl, rfl, by decide +kernel, rfl, by decide +kernel, by decide +kernel⟩
abbrev sFloatPaper : Stmt := topS 26
theorem scFloatPaper : FnScope ["floats", "width", "ceiling", "w", "side", "bottom", "start", "rows", "paper", "row", "stop", "i", "j", "one"] ["floats", "width", "ceiling", "w", "side"] (defScope sFloatPaper) := ⟨rfl, rfl, rfl, by decide +kernel, rfl, by decide +kernel, by decide +kernel⟩
abbrev sIsWholePapers : Stmt := topS 27
theorem scIsWholePapers : FnScope ["value"] ["value"] (defScope sIsWholePapers) := ⟨rfl, rfl, rfl, by decide +kernel, rfl, by decide +kernel, by decide +kernel⟩
abbrev sIsWitness : Stmt := topS 29
theorem scIsWitness : FnScope ["floats", "width", "value", "side", "row", "stop"] ["floats", "width", "value", "side", "row", "stop"] (defScope sIsWitness) := ⟨rfl, rfl, rfl, by decide +kernel, rfl, by decide +kernel, by decide +kernel⟩
abbrev sIsStretch : Stmt := topS 30
theorem scIsStretch : FnScope ["floats", "width", "w", "value", "row", "top", "stop", "i", "j", "low", "high"] ["floats", "width", "w", "value", "row"] (defScope sIsStretch) := ⟨rfl, rfl, rfl, by decide +kernel, rfl, by decide +kernel, by decide +kernel⟩
abbrev sIsFloatPaper : Stmt := topS 31
theorem scIsFloatPaper : FnScope ["floats", "width", "ceiling", "w", "side", "place", "value", "due", "row", "stretch"] ["floats", "width", "ceiling", "w", "side", "place", "value"] (defScope sIsFloatPaper) := ⟨rfl, rfl, rfl, by decide +kernel, rfl, by decide +kernel, by decide +kernel⟩
abbrev sLawPool : Stmt := topS 33
theorem scLawPool : FnScope ["script", "pool", "state", "cell", "rest", "k"] ["script"] (defScope sLawPool) := ⟨rfl, rfl, rfl, by decide +kernel, rfl, by decide +kernel, by decide +kernel⟩
abbrev sLawStream : Stmt := topS 34
theorem scLawStream : FnScope ["script"] ["script"] (defScope sLawStream) := ⟨rfl, rfl, rfl, by decide +kernel, rfl, by decide +kernel, by decide +kernel⟩
abbrev sLawPick : Stmt := topS 35
theorem scLawPick : FnScope ["pool", "many", "place"] ["pool", "many"] (defScope sLawPick) := ⟨rfl, rfl, rfl, by decide +kernel, rfl, by decide +kernel, by decide +kernel⟩
abbrev sLawFar : Stmt := topS 36
theorem scLawFar : FnScope ["pool", "many"] ["pool", "many"] (defScope sLawFar) := ⟨rfl, rfl, rfl, by decide +kernel, rfl, by decide +kernel, by decide +kernel⟩
abbrev sLawSame : Stmt := topS 37
theorem scLawSame : FnScope ["told", "due", "pairs", "turn", "one", "other", "key", "k"] ["told", "due"] (defScope sLawSame) := ⟨rfl, rfl, rfl, by decide +kernel, rfl, by decide +kernel, by decide +kernel⟩
abbrev sLawWide : Stmt := topS 38
theorem scLawWide : FnScope ["pool"] ["pool"] (defScope sLawWide) := ⟨rfl, rfl, rfl, by decide +kernel, rfl, by decide +kernel, by decide +kernel⟩
abbrev sLawFloats : Stmt := topS 39
theorem scLawFloats : FnScope ["pool", "many", "width", "floats", "top", "k", "long", "high", "edge"] ["pool", "many", "width"] (defScope sLawFloats) := ⟨rfl, rfl, rfl, by decide +kernel, rfl, by decide +kernel, by decide +kernel⟩
abbrev sLawBetween : Stmt := topS 40
theorem scLawBetween : FnScope ["floats", "width", "row", "low", "high", "one"] ["floats", "width", "row"] (defScope sLawBetween) := ⟨rfl, rfl, rfl, by decide +kernel, rfl, by decide +kernel, by decide +kernel⟩
abbrev sLawStart : Stmt := topS 41
theorem scLawStart : FnScope ["floats", "ceiling", "one"] ["floats", "ceiling"] (defScope sLawStart) := ⟨rfl, rfl, rfl, by decide +kernel, rfl, by decide +kernel, by decide +kernel⟩
abbrev sLawPlace : Stmt := topS 42
theorem scLawPlace : FnScope ["floats", "width", "ceiling", "w", "side", "start", "row", "low", "high"] ["floats", "width", "ceiling", "w", "side"] (defScope sLawPlace) := ⟨rfl, rfl, rfl, by decide +kernel, rfl, by decide +kernel, by decide +kernel⟩
abbrev sLawStretched : Stmt := topS 43
theorem scLawStretched : FnScope ["floats", "columns", "rows", "moved", "one"] ["floats", "columns", "rows", "moved"] (defScope sLawStretched) := ⟨rfl, rfl, rfl, by decide +kernel, rfl, by decide +kernel, by decide +kernel⟩
abbrev sLawNumbers : Stmt := topS 44
theorem scLawNumbers : FnScope ["floats", "width", "side", "row", "found", "k", "one"] ["floats", "width", "side", "row"] (defScope sLawNumbers) := ⟨rfl, rfl, rfl, by decide +kernel, rfl, by decide +kernel, by decide +kernel⟩
abbrev sLawLeftOver : Stmt := topS 45
theorem scLawLeftOver : FnScope ["floats", "width", "i", "j", "low", "high"] ["floats", "width", "i", "j"] (defScope sLawLeftOver) := ⟨rfl, rfl, rfl, by decide +kernel, rfl, by decide +kernel, by decide +kernel⟩
abbrev sLawMade : Stmt := topS 46
theorem scLawMade : FnScope ["pool", "floats", "width", "w", "start", "stop", "paper", "row", "cuts", "turn", "lefts", "rights", "pairs", "i", "j", "ends", "end", "k"] ["pool", "floats", "width", "w", "start", "stop"] (defScope sLawMade) := ⟨rfl, rfl, rfl, by decide +kernel, rfl, by decide +kernel, by decide +kernel⟩
abbrev sLawWhole : Stmt := topS 47
theorem scLawWhole : FnScope ["value"] ["value"] (defScope sLawWhole) := ⟨rfl, rfl, rfl, by decide +kernel, rfl, by decide +kernel, by decide +kernel⟩
abbrev sLawWitness : Stmt := topS 48
theorem scLawWitness : FnScope ["floats", "width", "value", "side", "row", "end", "one"] ["floats", "width", "value", "side", "row", "end"] (defScope sLawWitness) := ⟨rfl, rfl, rfl, by decide +kernel, rfl, by decide +kernel, by decide +kernel⟩
abbrev sLawRight : Stmt := topS 49
theorem scLawRight : FnScope ["floats", "width", "w", "start", "stop", "value", "row", "stretch"] ["floats", "width", "w", "start", "stop", "value"] (defScope sLawRight) := ⟨rfl, rfl, rfl, by decide +kernel, rfl, by decide +kernel, by decide +kernel⟩
abbrev sLawSpoiltStretch : Stmt := topS 50
theorem scLawSpoiltStretch : FnScope ["pool", "stretch", "many", "row", "end", "i", "j", "kind", "other", "step"] ["pool", "stretch", "many"] (defScope sLawSpoiltStretch) := ⟨rfl, rfl, rfl, by decide +kernel, rfl, by decide +kernel, by decide +kernel⟩
abbrev sLawSpoilt : Stmt := topS 51
theorem scLawSpoilt : FnScope ["pool", "paper", "many", "kind", "end", "k"] ["pool", "paper", "many"] (defScope sLawSpoilt) := ⟨rfl, rfl, rfl, by decide +kernel, rfl, by decide +kernel, by decide +kernel⟩
abbrev sLawOtherPlace : Stmt := topS 52
theorem scLawOtherPlace : FnScope ["pool", "place", "x", "y"] ["pool", "place"] (defScope sLawOtherPlace) := ⟨rfl, rfl, rfl, by decide +kernel, rfl, by decide +kernel, by decide +kernel⟩
abbrev sLawNoFloat : Stmt := topS 53
theorem scLawNoFloat : FnScope ["pool", "one", "side", "left", "right", "top", "bottom"] ["pool", "one"] (defScope sLawNoFloat) := ⟨rfl, rfl, rfl, by decide +kernel, rfl, by decide +kernel, by decide +kernel⟩
abbrev sLawWrong : Stmt := topS 54
theorem scLawWrong : FnScope ["pool", "call", "floats", "width", "ceiling", "w", "side", "kind", "at", "none", "one", "last", "more"] ["pool", "call"] (defScope sLawWrong) := ⟨rfl, rfl, rfl, by decide +kernel, rfl, by decide +kernel, by decide +kernel⟩
abbrev sLawRefused : Stmt := topS 55
theorem scLawRefused : FnScope ["which", "call", "place", "paper", "floats", "width", "ceiling", "w", "side"] ["which", "call", "place", "paper"] (defScope sLawRefused) := ⟨rfl, rfl, rfl, by decide +kernel, rfl, by decide +kernel, by decide +kernel⟩
abbrev sLawJudged : Stmt := topS 56
theorem scLawJudged : FnScope ["case", "place", "value", "due", "floats", "width", "ceiling", "w", "side", "handed", "kept", "told"] ["case", "place", "value", "due"] (defScope sLawJudged) := ⟨rfl, rfl, rfl, by decide +kernel, rfl, by decide +kernel, by decide +kernel⟩
abbrev sLawCase : Stmt := topS 57
theorem scLawCase : FnScope ["pool", "width", "many", "floats", "ceiling", "w", "side", "x", "y", "columns", "rows", "moved", "less", "call", "due"] ["pool"] (defScope sLawCase) := ⟨rfl, rfl, rfl, by decide +kernel, rfl, by decide +kernel, by decide +kernel⟩
abbrev sLawAsked : Stmt := topS 58
theorem scLawAsked : FnScope ["pool", "case", "call", "place", "start", "floats", "width", "ceiling", "w", "side", "handed", "turn", "told", "made", "spoilt"] ["pool", "case"] (defScope sLawAsked) := ⟨rfl, rfl, rfl, by decide +kernel, rfl, by decide +kernel, by decide +kernel⟩
abbrev sLaw : Stmt := topS 59
theorem scLaw : FnScope ["script", "pool", "cases", "case", "k"] ["script"] (defScope sLaw) := ⟨rfl, rfl, rfl, by decide +kernel, rfl, by decide +kernel, by decide +kernel⟩
structure Top (K : PySem.W.Frag) (w : World) (mg : Str → Option Value) : Prop where
  m_len : mg "len" = none
  m_all : mg "all" = none
  m_any : mg "any" = none
  m_int : mg "int" = none
  m_str : mg "str" = none
  m_bool : mg "bool" = none
  m_list : mg "list" = none
  m_tuple : mg "tuple" = none
  m_dict : mg "dict" = none
  m_set : mg "set" = none
  m_range : mg "range" = none
  m_zip : mg "zip" = none
  m_enumerate : mg "enumerate" = none
  m_sorted : mg "sorted" = none
  m_max : mg "max" = none
  m_min : mg "min" = none
  m_repr : mg "repr" = none
  m_isinstance : mg "isinstance" = none
  m_LEFT : ∃ t, mg "LEFT" = some (.str "left" t)
  m_RIGHT : ∃ t, mg "RIGHT" = some (.str "right" t)
  f_is_number : At K mg "is_number" "is_number" sIsNumber ["value", "low", "high"]
  f_is_whole_beside : At K mg "is_whole_beside" "is_whole" sIsWholeBeside ["value"]
  f_is_count : At K mg "is_count" "is_count" sIsCount ["value"]
  f_is_float : At K mg "is_float" "is_float" sIsFloat ["value"]
  f_are_floats : At K mg "are_floats" "are_floats" sAreFloats ["value"]
  f_between : At K mg "between" "between" sBetween ["floats", "low", "high", "row"]
  f_goes_in : At K mg "goes_in" "goes_in" sGoesIn ["floats", "low", "high", "row", "wide"]
  f_first_row_beside : At K mg "first_row_beside" "first_row" sFirstRowBeside ["floats", "low", "high", "start", "wide"]
  f_float_place : At K mg "float_place" "float_place" sFloatPlace ["floats", "low", "high", "start", "wide", "side"]
  f_check_room : At K mg "check_room" "check_room" sCheckRoom ["floats", "width", "row"]
  f_float_at : At K mg "float_at" "float_at" sFloatAt ["floats", "width", "ceiling", "w", "side"]
  f_first_row_papers : At K mg "first_row_papers" "first_row" sFirstRowPapers ["floats", "ceiling"]
  f_leaves_less : At K mg "leaves_less" "leaves_less" sLeavesLess ["one", "width"]
  f_tightest : At K mg "tightest" "tightest" sTightest ["floats", "width", "row"]
  f_float_paper : At K mg "float_paper" "float_paper" sFloatPaper ["floats", "width", "ceiling", "w", "side"]
  f_is_whole_papers : At K mg "is_whole_papers" "is_whole" sIsWholePapers ["value"]
  f_is_witness : At K mg "is_witness" "is_witness" sIsWitness ["floats", "width", "value", "side", "row", "stop"]
  f_is_stretch : At K mg "is_stretch" "is_stretch" sIsStretch ["floats", "width", "w", "value", "row"]
  f_is_float_paper : At K mg "is_float_paper" "is_float_paper" sIsFloatPaper ["floats", "width", "ceiling", "w", "side", "place", "value"]
  f__law_pool : At K mg "_law_pool" "_law_pool" sLawPool ["script"]
  f__law_stream : At K mg "_law_stream" "_law_stream" sLawStream ["script"]
  f__law_pick : At K mg "_law_pick" "_law_pick" sLawPick ["pool", "many"]
  f__law_far : At K mg "_law_far" "_law_far" sLawFar ["pool", "many"]
  f__law_same : At K mg "_law_same" "_law_same" sLawSame ["told", "due"]
  f__law_wide : At K mg "_law_wide" "_law_wide" sLawWide ["pool"]
  f__law_floats : At K mg "_law_floats" "_law_floats" sLawFloats ["pool", "many", "width"]
  f__law_between : At K mg "_law_between" "_law_between" sLawBetween ["floats", "width", "row"]
  f__law_start : At K mg "_law_start" "_law_start" sLawStart ["floats", "ceiling"]
  f__law_place : At K mg "_law_place" "_law_place" sLawPlace ["floats", "width", "ceiling", "w", "side"]
  f__law_stretched : At K mg "_law_stretched" "_law_stretched" sLawStretched ["floats", "columns", "rows", "moved"]
  f__law_numbers : At K mg "_law_numbers" "_law_numbers" sLawNumbers ["floats", "width", "side", "row"]
  f__law_left_over : At K mg "_law_left_over" "_law_left_over" sLawLeftOver ["floats", "width", "i", "j"]
  f__law_made : At K mg "_law_made" "_law_made" sLawMade ["pool", "floats", "width", "w", "start", "stop"]
  f__law_whole : At K mg "_law_whole" "_law_whole" sLawWhole ["value"]
  f__law_witness : At K mg "_law_witness" "_law_witness" sLawWitness ["floats", "width", "value", "side", "row", "end"]
  f__law_right : At K mg "_law_right" "_law_right" sLawRight ["floats", "width", "w", "start", "stop", "value"]
  f__law_spoilt_stretch : At K mg "_law_spoilt_stretch" "_law_spoilt_stretch" sLawSpoiltStretch ["pool", "stretch", "many"]
  f__law_spoilt : At K mg "_law_spoilt" "_law_spoilt" sLawSpoilt ["pool", "paper", "many"]
  f__law_other_place : At K mg "_law_other_place" "_law_other_place" sLawOtherPlace ["pool", "place"]
  f__law_no_float : At K mg "_law_no_float" "_law_no_float" sLawNoFloat ["pool", "one"]
  f__law_wrong : At K mg "_law_wrong" "_law_wrong" sLawWrong ["pool", "call"]
  f__law_refused : At K mg "_law_refused" "_law_refused" sLawRefused ["which", "call", "place", "paper"]
  f__law_judged : At K mg "_law_judged" "_law_judged" sLawJudged ["case", "place", "value", "due"]
  f__law_case : At K mg "_law_case" "_law_case" sLawCase ["pool"]
  f__law_asked : At K mg "_law_asked" "_law_asked" sLawAsked ["pool", "case"]
  f_law : At K mg "law" "law" sLaw ["script"]
end K92

namespace K92
open PySem PySem.Spec PyProof.Rows L2 KB
section
variable {P : Program} {w : World} {K : PySem.W.Frag} {mg : Str → Option Value} {base : Heap}
def spPick : Sp := fun vs H Q _ => ∃ (P : Addr) (m : Int), vs = [.ref P, .int m] ∧ PoolAt P H ∧ 0 < m ∧ ∀ r H', 0 ≤ r → r < m → Pst P H H' → Q (.int r) H'
theorem okPick (T : Top K w mg) : Ok P w K mg base CX0 1 "_law_pick" ["pool", "many"] spPick := by
  have m_len := T.m_len
  have m_int := T.m_int
  refine mkOk T.f__law_pick scLawPick (fun vs H Q E h => ?_) (fun f cdv A outer s H vs Q E hr h => ?_)
  · obtain ⟨_, _, rfl, _⟩ := h
    rfl
  · obtain ⟨Pa, m, rfl, hP, hm, q⟩ := h
    obtain ⟨p, r, eP, h1, h2, h3⟩ := hP
    refine ⟨_, pss_cons (ps_set (i := 2) scLawPick.nd rfl (Or.inl rfl) (pe_ix ix_list (pv 0) (pe_int) (fun _ _ => rfl)))
  (pss_cons (ps_asg (pe_op op_add (pv 2) (pe_int)) (pg_sub (pv 0) (pe_int) set_list))
  (pss_cons (ps_if (pt_cmpR op_eq (pe_ix ix_list (pv 0) (pe_int) (fun _ _ => rfl)) (pe_callB (call_len_seqK (K := K) rfl) (by rfl) m_len PySem.boot_len (pa_cons (pv 0) pa_nil)) (nomark _))
  (pss_one (ps_asg (pe_int) (pg_sub (pv 0) (pe_int) set_list)))
  (pss_nil))
  (pss_one (ps_ret (pe_op op_mod (pe_callTy call_intI (by rfl) m_int (by decide +kernel) (pa_cons (pe_ix ix_list (pv 0) (pv 2) (fun _ _ => rfl)) pa_nil)) (pv 1)))))), ?_⟩
    (try simp only [cx_K, cx_w, rIn, rMulS, CwR.tReplC, tM1, tBM0, rPop, rExtend, rReverse, rLenS, rEqE, rNeE, rSetL, rIntI, rIntB, tBM, rAppend, rIxL, rIxT, rCat, rSlL, rSlS, gTup, tYes, wipe, tSeq, tAsg, tIfS, tRet, tRetN, tDrop, tNext, tBreak, tCont, tNever, tAug, ipI, tPar, tPar3, gName, gCons, gNil, gSub, tVar, tC, tOp, tUn, tIf, tAndV, tOrV, tNotV, tAnd, tOr, tNot, L2.tB, tTest, tCmp, tChain, tCB, tCons, tNil, tCall, tTup, tLst, tSl, tPart, tNoPart, rI, rI0, rU, rEq, rNe, scal_ii, scal_ss, scal_bb, scal_nn, scal_is, scal_si, rIxS, S_len, S_cps, S_inj, L2.start, List.map_cons, List.map_nil, List.cons_append, List.nil_append, List.append_nil, List.getElem?_cons_zero, List.getElem?_cons_succ, List.set_cons_zero, List.set_cons_succ, List.length_cons, List.length_nil, Nat.reduceAdd, Nat.reduceSub, List.replicate_succ, List.replicate_zero, Option.some.injEq, V.int.injEq, V.str.injEq, V.bl.injEq, V.ref.injEq, List.cons.injEq, and_true, true_and, exists_eq_left, exists_eq_left', exists_and_left, exists_eq, exists_eq', decide_eq_true_eq, Bool.not_eq_true', decide_eq_false_iff_not, Bool.false_eq_true, if_false, if_true, reduceIte, ite_self, CMul, CPow, CDiv])
    have hz : ∀ {n : Nat}, 0 < n → ixN n 0 = some 0 := fun h => ixN_in (j := 0) h
    have hset : ∀ k : Int, (V.int (p : Int) :: r.map V.int).set 0 (V.int k) = V.int k :: r.map V.int := fun k => rfl
    have hget : (V.int ((p : Int) + 1) :: r.map V.int)[p]? = some (V.int (r[p - 1]'(by omega))) := by
      obtain ⟨q, rfl⟩ : ∃ q, p = q + 1 := ⟨p - 1, by omega⟩
      rw [List.getElem?_cons_succ, List.getElem?_map, List.getElem?_eq_getElem (by omega)]
      rfl
    have hget1 : ∀ k : Int, (V.int k :: r.map V.int)[p]? = some (V.int (r[p - 1]'(by omega))) := fun k => by
      rw [← hget]
      obtain ⟨q, rfl⟩ : ∃ q, p = q + 1 := ⟨p - 1, by omega⟩
      rfl
    refine ⟨_, SqL.of eP, _, at_nat (i := 0) rfl, _, rfl, _, eP, 0, hz (by simp), ?_⟩
    rw [hset]
    refine ⟨_, SqL.of upd_same, _, at_nat (i := 0) rfl, _, .inl (SqL.of upd_same), rfl, ?_⟩
    have fin : ∀ (k : Nat) (H' : Hp), 1 ≤ k → k ≤ r.length → H' Pa = some (.lst (V.int (k : Int) :: r.map V.int)) → Kp Pa H H' → ∃ x x_3, V.int (p : Int) = V.int x_3 ∧ SqL K H' Pa x ∧ ∃ x_4, atI x x_3 = some x_4 ∧ ∃ i, x_4 = V.int i ∧ 0 < m ∧ Q (V.int (i % m)) H' := fun k H' k1 k2 e kp =>
      ⟨_, _, rfl, SqL.of e, _, at_nat (hget1 _), _, rfl, hm, q _ _ (Int.emod_nonneg _ (by omega)) (Int.emod_lt_of_pos _ hm) ⟨kp, k, r, e, k1, k2, h3⟩⟩
    refine ite2 (fun hc => ?_) (fun hc => ?_)
    · refine ⟨_, upd_same, 0, hz (by simp), ?_⟩
      exact fin 1 _ (by omega) (by omega) upd_same (Kp.at.trans Kp.at)
    · have hc : ¬ (p : Int) + 1 = (((V.int ((p : Int) + 1) :: r.map V.int).length : Nat) : Int) := fun z => hc (congrArg V.int z)
      rw [List.length_cons, List.length_map] at hc
      exact fin (p + 1) _ (by omega) (by omega) upd_same Kp.at
def spPool (K : PySem.W.Frag) : Sp := fun vs H Q _ => ∃ (a : Addr) (ns : List Int), vs = [.ref a] ∧ SqL K H a (ns.map V.int) ∧ ns.length ≤ 63 ∧ ∀ p r H', Same H H' → H p = none → H' p = some (.lst ((r : List Int).map V.int)) → 300 ≤ r.length → r.length ≤ 4999 → Q (.ref p) H'
def PoolInv (a : Addr) (H : Hp) (lo n : Nat) (σ : L2.St) (H1 : Hp) : Prop := ∃ (p : Addr) (r : List Int) (x : Int) (e3 e4 e5 : Option V), σ = [some (V.ref a), some (.ref p), some (.int x), e3, e4, e5] ∧ Same H H1 ∧ H p = none ∧ H1 p = some (.lst (r.map V.int)) ∧ lo ≤ r.length ∧ r.length ≤ n
theorem app_int {H H1 : Hp} {p : Addr} {r : List Int} (y : Int) : upd H1 p (.lst (r.map V.int ++ [V.int y])) p = some (.lst ((r ++ [y]).map V.int)) := by
  rw [upd_same, List.map_append]
  rfl
theorem okPool (T : Top K w mg) : Ok P w K mg base CX0 1 "_law_pool" ["script"] (spPool K) := by
  have m_range := T.m_range
  have m_int := T.m_int
  refine mkOk T.f__law_pool scLawPool (fun vs H Q E h => ?_) (fun f cdv A outer s H vs Q E hr h => ?_)
  · obtain ⟨_, _, rfl, _⟩ := h
    rfl
  · obtain ⟨a, ns, rfl, hS, hlen, q⟩ := h
    refine ⟨_, pss_cons (ps_par (i := 1) (j := 2) rfl scLawPool.nd rfl rfl (by decide) rfl rfl (pa_cons (pe_lst (pa_nil)) (pa_cons (pe_int) pa_nil)) (by rfl))
  (pss_cons (ps_for PassesOwn.never rfl (pi_list (pv 0)) (pg_name (i := 3) scLawPool.nd rfl (Or.inl rfl))
  (pss_cons (ps_set (i := 4) scLawPool.nd rfl (Or.inl rfl) (pe_op op_mod (pe_callTy call_intI (by rfl) m_int (by decide +kernel) (pa_cons (pv 3) pa_nil)) (pe_op op_pow (pe_int) (pe_int))))
  (pss_cons (ps_set (i := 2) scLawPool.nd rfl (Or.inl rfl) (pe_op op_mod (pe_callTy call_intI (by rfl) m_int (by decide +kernel) (pa_cons (pe_op op_add (pe_op op_mul (pv 2) (pe_int)) (pv 4)) pa_nil)) (pe_int)))
  (pss_one (ps_if (pt_cmpR op_ge (pv 4) (pe_op op_pow (pe_int) (pe_int)) (nomark _))
  (pss_one (ps_for PassesOwn.never rfl (pi_range1 rfl m_range (pa_cons (pe_int) pa_nil)) (pg_name (i := 5) scLawPool.nd rfl (Or.inl rfl))
  (pss_cons (ps_expr (pe_bm PySem.F.plainAttrs_list PySem.F.slot_list_append PySem.F.type_list_append mt_append (pv 1) (pa_cons (pe_op op_mod (pe_callTy call_intI (by rfl) m_int (by decide +kernel) (pa_cons (pv 4) pa_nil)) (pe_int)) pa_nil)))
  (pss_cons (ps_set (i := 4) scLawPool.nd rfl (Or.inl rfl) (pe_callTy call_intI (by rfl) m_int (by decide +kernel) (pa_cons (pe_op op_fdiv (pv 4) (pe_int)) pa_nil)))
  (pss_one (ps_if (pt_cmpR op_eq (pv 4) (pe_int) (nomark _))
  (pss_one (ps_break))
  (pss_nil)))))))
  (pss_one (ps_set (i := 1) scLawPool.nd rfl (Or.inl rfl) (pe_op op_cat (pv 1) (pe_lst (pa_cons (pe_op op_mod (pe_callTy call_intI (by rfl) m_int (by decide +kernel) (pa_cons (pv 4) pa_nil)) (pe_int)) (pa_cons (pe_op op_mod (pe_callTy call_intI (by rfl) m_int (by decide +kernel) (pa_cons (pe_op op_fdiv (pv 4) (pe_int)) pa_nil)) (pe_int)) pa_nil)))))))))))
  (pss_cons (ps_for PassesOwn.never rfl (pi_range1 rfl m_range (pa_cons (pe_int) pa_nil)) (pg_name (i := 5) scLawPool.nd rfl (Or.inl rfl))
  (pss_cons (ps_set (i := 2) scLawPool.nd rfl (Or.inl rfl) (pe_op op_mod (pe_op op_add (pe_op op_mul (pv 2) (pe_int)) (pe_int)) (pe_int)))
  (pss_one (ps_expr (pe_bm PySem.F.plainAttrs_list PySem.F.slot_list_append PySem.F.type_list_append mt_append (pv 1) (pa_cons (pe_op op_mod (pe_callTy call_intI (by rfl) m_int (by decide +kernel) (pa_cons (pe_op op_fdiv (pv 2) (pe_int)) pa_nil)) (pe_int)) pa_nil))))))
  (pss_one (ps_ret (pv 1))))), ?_⟩
    (try simp only [cx_K, cx_w, rIn, rMulS, CwR.tReplC, tM1, tBM0, rPop, rExtend, rReverse, rLenS, rEqE, rNeE, rSetL, rIntI, rIntB, tBM, rAppend, rIxL, rIxT, rCat, rSlL, rSlS, gTup, tYes, wipe, tSeq, tAsg, tIfS, tRet, tRetN, tDrop, tNext, tBreak, tCont, tNever, tAug, ipI, tPar, tPar3, gName, gCons, gNil, gSub, tVar, tC, tOp, tUn, tIf, tAndV, tOrV, tNotV, tAnd, tOr, tNot, L2.tB, tTest, tCmp, tChain, tCB, tCons, tNil, tCall, tTup, tLst, tSl, tPart, tNoPart, rI, rI0, rU, rEq, rNe, scal_ii, scal_ss, scal_bb, scal_nn, scal_is, scal_si, rIxS, S_len, S_cps, S_inj, L2.start, List.map_cons, List.map_nil, List.cons_append, List.nil_append, List.append_nil, List.getElem?_cons_zero, List.getElem?_cons_succ, List.set_cons_zero, List.set_cons_succ, List.length_cons, List.length_nil, Nat.reduceAdd, Nat.reduceSub, List.replicate_succ, List.replicate_zero, Option.some.injEq, V.int.injEq, V.str.injEq, V.bl.injEq, V.ref.injEq, List.cons.injEq, and_true, true_and, exists_eq_left, exists_eq_left', exists_and_left, exists_eq, exists_eq', decide_eq_true_eq, Bool.not_eq_true', decide_eq_false_iff_not, Bool.false_eq_true, if_false, if_true, reduceIte, ite_self, CMul, CPow, CDiv])
    refine ⟨Nat.zero_le _, fun p hp => ⟨_, _, ⟨rfl, rfl⟩, ?_⟩⟩
    have hS' : ∀ {H1 : Hp}, Same H H1 → SqL K H1 a (ns.map V.int) := fun s => s.seq hS
    refine ⟨_, rfl, a, rfl, ⟨_, hS' (Same.new hp)⟩, for_list (xs := ns.map V.int) (fun i => PoolInv a H 0 (60 * i)) ?_ ?_ ?_ ?_⟩
    · exact ⟨p, [], _, _, _, _, rfl, Same.new hp, hp, upd_same, Nat.zero_le _, Nat.zero_le _⟩
    · rintro i σ H1 _ ⟨p, r, x, e3, e4, e5, rfl, sm, _⟩
      exact hS' sm
    · rintro i x σ H1 hx ⟨p, r, y, e3, e4, e5, rfl, sm, hp, ep, _, hr'⟩
      obtain ⟨c, hc, rfl⟩ : ∃ c, ns[i]? = some c ∧ V.int c = x := by
        rw [List.getElem?_map] at hx
        obtain ⟨c, hc, e⟩ := Option.map_eq_some_iff.mp hx
        exact ⟨c, hc, e⟩
      have hi63 : i < 63 := Nat.lt_of_lt_of_le (List.getElem?_eq_some_iff.mp hc).1 hlen
      (try simp only [cx_K, cx_w, rIn, rMulS, CwR.tReplC, tM1, tBM0, rPop, rExtend, rReverse, rLenS, rEqE, rNeE, rSetL, rIntI, rIntB, tBM, rAppend, rIxL, rIxT, rCat, rSlL, rSlS, gTup, tYes, wipe, tSeq, tAsg, tIfS, tRet, tRetN, tDrop, tNext, tBreak, tCont, tNever, tAug, ipI, tPar, tPar3, gName, gCons, gNil, gSub, tVar, tC, tOp, tUn, tIf, tAndV, tOrV, tNotV, tAnd, tOr, tNot, L2.tB, tTest, tCmp, tChain, tCB, tCons, tNil, tCall, tTup, tLst, tSl, tPart, tNoPart, rI, rI0, rU, rEq, rNe, scal_ii, scal_ss, scal_bb, scal_nn, scal_is, scal_si, rIxS, S_len, S_cps, S_inj, L2.start, List.map_cons, List.map_nil, List.cons_append, List.nil_append, List.append_nil, List.getElem?_cons_zero, List.getElem?_cons_succ, List.set_cons_zero, List.set_cons_succ, List.length_cons, List.length_nil, Nat.reduceAdd, Nat.reduceSub, List.replicate_succ, List.replicate_zero, Option.some.injEq, V.int.injEq, V.str.injEq, V.bl.injEq, V.ref.injEq, List.cons.injEq, and_true, true_and, exists_eq_left, exists_eq_left', exists_and_left, exists_eq, exists_eq', decide_eq_true_eq, Bool.not_eq_true', decide_eq_false_iff_not, Bool.false_eq_true, if_false, if_true, reduceIte, ite_self, CMul, CPow, CDiv])
      refine ⟨⟨by decide, by decide, by decide⟩, by decide, .inr (by decide), by decide, ⟨by decide, by decide, by decide⟩, ?_⟩
      refine ite2 (fun _ => ?_) (fun _ => ?_)
      · refine ⟨_, rfl, by decide, by decide, for_range (lo := 0) (n := 60) (fun j σ H1 => ∃ (z x : Int) (p : Addr) (r : List Int) (e3 e5 : Option V), σ = [some (V.ref a), some (.ref p), some (.int z), e3, some (.int x), e5] ∧ Same H H1 ∧ H p = none ∧ H1 p = some (.lst (r.map V.int)) ∧ r.length ≤ 60 * i + j) ?_ ?_ ?_⟩
        · exact ⟨_, _, p, r, _, _, rfl, sm, hp, ep, by omega⟩
        · rintro j σ H1 hj ⟨z, x, p, r, e3, e5, rfl, sm, hp, ep, hl⟩
          (try simp only [cx_K, cx_w, rIn, rMulS, CwR.tReplC, tM1, tBM0, rPop, rExtend, rReverse, rLenS, rEqE, rNeE, rSetL, rIntI, rIntB, tBM, rAppend, rIxL, rIxT, rCat, rSlL, rSlS, gTup, tYes, wipe, tSeq, tAsg, tIfS, tRet, tRetN, tDrop, tNext, tBreak, tCont, tNever, tAug, ipI, tPar, tPar3, gName, gCons, gNil, gSub, tVar, tC, tOp, tUn, tIf, tAndV, tOrV, tNotV, tAnd, tOr, tNot, L2.tB, tTest, tCmp, tChain, tCB, tCons, tNil, tCall, tTup, tLst, tSl, tPart, tNoPart, rI, rI0, rU, rEq, rNe, scal_ii, scal_ss, scal_bb, scal_nn, scal_is, scal_si, rIxS, S_len, S_cps, S_inj, L2.start, List.map_cons, List.map_nil, List.cons_append, List.nil_append, List.append_nil, List.getElem?_cons_zero, List.getElem?_cons_succ, List.set_cons_zero, List.set_cons_succ, List.length_cons, List.length_nil, Nat.reduceAdd, Nat.reduceSub, List.replicate_succ, List.replicate_zero, Option.some.injEq, V.int.injEq, V.str.injEq, V.bl.injEq, V.ref.injEq, List.cons.injEq, and_true, true_and, exists_eq_left, exists_eq_left', exists_and_left, exists_eq, exists_eq', decide_eq_true_eq, Bool.not_eq_true', decide_eq_false_iff_not, Bool.false_eq_true, if_false, if_true, reduceIte, ite_self, CMul, CPow, CDiv])
          refine ⟨.inl ⟨rfl, _, SqL.of ep⟩, by decide, _, ep, sz5' (by rw [List.length_map]; omega), ⟨by decide, by decide⟩, ?_⟩
          refine ite2 (fun _ => ?_) (fun _ => ?_)
          · exact ⟨p, r ++ [_], _, _, _, _, rfl, sm.mut hp, hp, app_int (H := H) _, Nat.zero_le _, by rw [List.length_append, List.length_singleton]; omega⟩
          · exact ⟨_, _, p, r ++ [_], _, _, ⟨rfl, rfl, rfl, rfl, rfl⟩, sm.mut hp, hp, app_int (H := H) _, by rw [List.length_append, List.length_singleton]; omega⟩
        · rintro σ H1 ⟨z, x, p, r, e3, e5, rfl, sm, hp, ep, hl⟩
          exact ⟨p, r, _, _, _, _, rfl, sm, hp, ep, Nat.zero_le _, by omega⟩
      · refine ⟨by decide, ⟨by decide, by decide⟩, by decide, by decide, fun b hb => ⟨r.map V.int, Same.new hb _ _ ep, _, upd_same, sz5 ?_, fun d hd => ?_⟩⟩
        · rw [List.length_map, List.length_cons, List.length_singleton]
          omega
        · refine ⟨d, r ++ [c % 60 ^ Int.toNat 60 % 60, c % 60 ^ Int.toNat 60 / 60 % 60], _, _, _, _, rfl, (sm.trans (Same.new hb)).trans (Same.new hd), (sm.trans (Same.new hb)).free hd, ?_, Nat.zero_le _, ?_⟩
          · rw [upd_same, List.map_append]
            rfl
          · rw [List.length_append, List.length_cons, List.length_singleton]
            omega
    · rintro σ H1 ⟨p, r, x, e3, e4, e5, rfl, sm, hp, ep, _, hr'⟩
      rw [List.length_map] at hr'
      (try simp only [cx_K, cx_w, rIn, rMulS, CwR.tReplC, tM1, tBM0, rPop, rExtend, rReverse, rLenS, rEqE, rNeE, rSetL, rIntI, rIntB, tBM, rAppend, rIxL, rIxT, rCat, rSlL, rSlS, gTup, tYes, wipe, tSeq, tAsg, tIfS, tRet, tRetN, tDrop, tNext, tBreak, tCont, tNever, tAug, ipI, tPar, tPar3, gName, gCons, gNil, gSub, tVar, tC, tOp, tUn, tIf, tAndV, tOrV, tNotV, tAnd, tOr, tNot, L2.tB, tTest, tCmp, tChain, tCB, tCons, tNil, tCall, tTup, tLst, tSl, tPart, tNoPart, rI, rI0, rU, rEq, rNe, scal_ii, scal_ss, scal_bb, scal_nn, scal_is, scal_si, rIxS, S_len, S_cps, S_inj, L2.start, List.map_cons, List.map_nil, List.cons_append, List.nil_append, List.append_nil, List.getElem?_cons_zero, List.getElem?_cons_succ, List.set_cons_zero, List.set_cons_succ, List.length_cons, List.length_nil, Nat.reduceAdd, Nat.reduceSub, List.replicate_succ, List.replicate_zero, Option.some.injEq, V.int.injEq, V.str.injEq, V.bl.injEq, V.ref.injEq, List.cons.injEq, and_true, true_and, exists_eq_left, exists_eq_left', exists_and_left, exists_eq, exists_eq', decide_eq_true_eq, Bool.not_eq_true', decide_eq_false_iff_not, Bool.false_eq_true, if_false, if_true, reduceIte, ite_self, CMul, CPow, CDiv])
      refine ⟨_, rfl, by decide, by decide, for_range (lo := 0) (n := 300) (fun i => PoolInv a H i (3780 + i)) ?_ ?_ ?_⟩
      · exact ⟨p, r, _, _, _, _, rfl, sm, hp, ep, Nat.zero_le _, by omega⟩
      · rintro j σ H1 hj ⟨p, r, y, e3, e4, e5, rfl, sm, hp, ep, hl, hr'⟩
        (try simp only [cx_K, cx_w, rIn, rMulS, CwR.tReplC, tM1, tBM0, rPop, rExtend, rReverse, rLenS, rEqE, rNeE, rSetL, rIntI, rIntB, tBM, rAppend, rIxL, rIxT, rCat, rSlL, rSlS, gTup, tYes, wipe, tSeq, tAsg, tIfS, tRet, tRetN, tDrop, tNext, tBreak, tCont, tNever, tAug, ipI, tPar, tPar3, gName, gCons, gNil, gSub, tVar, tC, tOp, tUn, tIf, tAndV, tOrV, tNotV, tAnd, tOr, tNot, L2.tB, tTest, tCmp, tChain, tCB, tCons, tNil, tCall, tTup, tLst, tSl, tPart, tNoPart, rI, rI0, rU, rEq, rNe, scal_ii, scal_ss, scal_bb, scal_nn, scal_is, scal_si, rIxS, S_len, S_cps, S_inj, L2.start, List.map_cons, List.map_nil, List.cons_append, List.nil_append, List.append_nil, List.getElem?_cons_zero, List.getElem?_cons_succ, List.set_cons_zero, List.set_cons_succ, List.length_cons, List.length_nil, Nat.reduceAdd, Nat.reduceSub, List.replicate_succ, List.replicate_zero, Option.some.injEq, V.int.injEq, V.str.injEq, V.bl.injEq, V.ref.injEq, List.cons.injEq, and_true, true_and, exists_eq_left, exists_eq_left', exists_and_left, exists_eq, exists_eq', decide_eq_true_eq, Bool.not_eq_true', decide_eq_false_iff_not, Bool.false_eq_true, if_false, if_true, reduceIte, ite_self, CMul, CPow, CDiv])
        refine ⟨.inr ⟨by decide, by decide⟩, by decide, .inl ⟨rfl, _, SqL.of ep⟩, ⟨by decide, by decide⟩, by decide, _, ep, sz5' (by rw [List.length_map]; omega), ?_⟩
        exact ⟨p, r ++ [_], _, _, _, _, rfl, sm.mut hp, hp, app_int (H := H) _, by rw [List.length_append, List.length_singleton]; omega, by rw [List.length_append, List.length_singleton]; omega⟩
      · rintro σ H1 ⟨p, r, y, e3, e4, e5, rfl, sm, hp, ep, hl, hr'⟩
        (try simp only [cx_K, cx_w, rIn, rMulS, CwR.tReplC, tM1, tBM0, rPop, rExtend, rReverse, rLenS, rEqE, rNeE, rSetL, rIntI, rIntB, tBM, rAppend, rIxL, rIxT, rCat, rSlL, rSlS, gTup, tYes, wipe, tSeq, tAsg, tIfS, tRet, tRetN, tDrop, tNext, tBreak, tCont, tNever, tAug, ipI, tPar, tPar3, gName, gCons, gNil, gSub, tVar, tC, tOp, tUn, tIf, tAndV, tOrV, tNotV, tAnd, tOr, tNot, L2.tB, tTest, tCmp, tChain, tCB, tCons, tNil, tCall, tTup, tLst, tSl, tPart, tNoPart, rI, rI0, rU, rEq, rNe, scal_ii, scal_ss, scal_bb, scal_nn, scal_is, scal_si, rIxS, S_len, S_cps, S_inj, L2.start, List.map_cons, List.map_nil, List.cons_append, List.nil_append, List.append_nil, List.getElem?_cons_zero, List.getElem?_cons_succ, List.set_cons_zero, List.set_cons_succ, List.length_cons, List.length_nil, Nat.reduceAdd, Nat.reduceSub, List.replicate_succ, List.replicate_zero, Option.some.injEq, V.int.injEq, V.str.injEq, V.bl.injEq, V.ref.injEq, List.cons.injEq, and_true, true_and, exists_eq_left, exists_eq_left', exists_and_left, exists_eq, exists_eq', decide_eq_true_eq, Bool.not_eq_true', decide_eq_false_iff_not, Bool.false_eq_true, if_false, if_true, reduceIte, ite_self, CMul, CPow, CDiv])
        exact q p r H1 sm hp ep hl (by omega)
def spStream (K : PySem.W.Frag) : Sp := fun vs H Q _ => ∃ (a : Addr) (ns : List Int), vs = [.ref a] ∧ SqL K H a (ns.map V.int) ∧ ns.length ≤ 63 ∧ ∀ p H', Same H H' → H p = none → PoolAt p H' → Q (.ref p) H'
theorem okStream (T : Top K w mg) : Ok P w K mg base CX0 2 "_law_stream" ["script"] (spStream K) := by
  have GLawPool : Ok P w K mg base CX0 1 "_law_pool" ["script"] (spPool K) := okPool T
  refine mkOk T.f__law_stream scLawStream (fun vs H Q E h => ?_) (fun f cdv A outer s H vs Q E hr h => ?_)
  · obtain ⟨_, _, rfl, _⟩ := h
    rfl
  · obtain ⟨a, ns, rfl, hS, hlen, q⟩ := h
    refine ⟨_, pss_one (ps_ret (pe_op op_cat (pe_lst (pa_cons (pe_int) pa_nil)) (pcall GLawPool (hr.mono (by decide)) (by rfl) pass0 (pa_cons (pv 0) pa_nil)))), ?_⟩
    (try simp only [cx_K, cx_w, rIn, rMulS, CwR.tReplC, tM1, tBM0, rPop, rExtend, rReverse, rLenS, rEqE, rNeE, rSetL, rIntI, rIntB, tBM, rAppend, rIxL, rIxT, rCat, rSlL, rSlS, gTup, tYes, wipe, tSeq, tAsg, tIfS, tRet, tRetN, tDrop, tNext, tBreak, tCont, tNever, tAug, ipI, tPar, tPar3, gName, gCons, gNil, gSub, tVar, tC, tOp, tUn, tIf, tAndV, tOrV, tNotV, tAnd, tOr, tNot, L2.tB, tTest, tCmp, tChain, tCB, tCons, tNil, tCall, tTup, tLst, tSl, tPart, tNoPart, rI, rI0, rU, rEq, rNe, scal_ii, scal_ss, scal_bb, scal_nn, scal_is, scal_si, rIxS, S_len, S_cps, S_inj, L2.start, List.map_cons, List.map_nil, List.cons_append, List.nil_append, List.append_nil, List.getElem?_cons_zero, List.getElem?_cons_succ, List.set_cons_zero, List.set_cons_succ, List.length_cons, List.length_nil, Nat.reduceAdd, Nat.reduceSub, List.replicate_succ, List.replicate_zero, Option.some.injEq, V.int.injEq, V.str.injEq, V.bl.injEq, V.ref.injEq, List.cons.injEq, and_true, true_and, exists_eq_left, exists_eq_left', exists_and_left, exists_eq, exists_eq', decide_eq_true_eq, Bool.not_eq_true', decide_eq_false_iff_not, Bool.false_eq_true, if_false, if_true, reduceIte, ite_self, CMul, CPow, CDiv])
    refine ⟨by decide, fun p hp => ⟨a, ns, rfl, (Same.new hp).seq hS, hlen, fun b r H1 sm hb eb h1 h2 => ?_⟩⟩
    (try simp only [cx_K, cx_w, rIn, rMulS, CwR.tReplC, tM1, tBM0, rPop, rExtend, rReverse, rLenS, rEqE, rNeE, rSetL, rIntI, rIntB, tBM, rAppend, rIxL, rIxT, rCat, rSlL, rSlS, gTup, tYes, wipe, tSeq, tAsg, tIfS, tRet, tRetN, tDrop, tNext, tBreak, tCont, tNever, tAug, ipI, tPar, tPar3, gName, gCons, gNil, gSub, tVar, tC, tOp, tUn, tIf, tAndV, tOrV, tNotV, tAnd, tOr, tNot, L2.tB, tTest, tCmp, tChain, tCB, tCons, tNil, tCall, tTup, tLst, tSl, tPart, tNoPart, rI, rI0, rU, rEq, rNe, scal_ii, scal_ss, scal_bb, scal_nn, scal_is, scal_si, rIxS, S_len, S_cps, S_inj, L2.start, List.map_cons, List.map_nil, List.cons_append, List.nil_append, List.append_nil, List.getElem?_cons_zero, List.getElem?_cons_succ, List.set_cons_zero, List.set_cons_succ, List.length_cons, List.length_nil, Nat.reduceAdd, Nat.reduceSub, List.replicate_succ, List.replicate_zero, Option.some.injEq, V.int.injEq, V.str.injEq, V.bl.injEq, V.ref.injEq, List.cons.injEq, and_true, true_and, exists_eq_left, exists_eq_left', exists_and_left, exists_eq, exists_eq', decide_eq_true_eq, Bool.not_eq_true', decide_eq_false_iff_not, Bool.false_eq_true, if_false, if_true, reduceIte, ite_self, CMul, CPow, CDiv])
    refine ⟨_, sm _ _ upd_same, _, eb, sz5 ?_, fun c hc => ?_⟩
    · rw [List.length_map, List.length_singleton]
      omega
    · exact q c _ (((Same.new hp).trans sm).trans (Same.new hc)) (((Same.new hp).trans sm).free hc) ⟨1, r, upd_same, Nat.le_refl _, by omega, by omega⟩
/-! ### whether two values are the same -/
mutual
def dsize : D → Nat
  | .tup ds => 1 + dsizes ds
  | .lst ds => 1 + dsizes ds
  | _ => 1
def dsizes : List D → Nat
  | [] => 0
  | d :: ds => dsize d + dsizes ds
end
theorem dsizes_app : ∀ (a b : List D), dsizes (a ++ b) = dsizes a + dsizes b
  | [], b => by simp [dsizes]
  | d :: a, b => by
    rw [List.cons_append, dsizes, dsizes, dsizes_app a b]
    omega
theorem len_dsizes : ∀ ds : List D, ds.length ≤ dsizes ds
  | [] => Nat.zero_le _
  | d :: ds => by
    rw [List.length_cons, dsizes]
    have := len_dsizes ds
    have : 1 ≤ dsize d := by cases d <;> simp [dsize]
    omega
theorem dsize_pos (d : D) : 1 ≤ dsize d := by
  cases d <;> simp [dsize]
def spSame : Sp := fun vs H Q _ => ∃ (x y : V) (d : D), vs = [x, y] ∧ Rep H d x ∧ Rep H d y ∧ dsize d ≤ 1000000 ∧ ∀ H', Same H H' → Q (.bl true) H'
/-- pairs of the same data -/
structure PairsR (H H1 : Hp) (ds : List D) (xs : List V) : Prop where
  len : xs.length = ds.length
  at_ : ∀ (i : Nat) (d : D), ds[i]? = some d → ∃ t v1 v2, xs[i]? = some (.ref t) ∧ H1 t = some (.tup [v1, v2]) ∧ Rep H d v1 ∧ Rep H d v2
theorem PairsR.mono {H H1 H2 : Hp} {ds : List D} {xs : List V} (h : PairsR H H1 ds xs) (m : ∀ t ys, H1 t = some (.tup ys) → H2 t = some (.tup ys)) : PairsR H H2 ds xs :=
  ⟨h.len, fun i d e => by
    obtain ⟨t, v1, v2, e1, e2, e3⟩ := h.at_ i d e
    exact ⟨t, v1, v2, e1, m _ _ e2, e3⟩⟩
theorem PairsR.app {H H1 : Hp} {ds es : List D} {xs ys : List V} (h : PairsR H H1 ds xs) (k : PairsR H H1 es ys) : PairsR H H1 (ds ++ es) (xs ++ ys) := by
  refine ⟨by rw [List.length_append, List.length_append, h.len, k.len], fun i d e => ?_⟩
  by_cases hi : i < ds.length
  · rw [List.getElem?_append_left hi] at e
    obtain ⟨t, v1, v2, e1, e2⟩ := h.at_ i d e
    exact ⟨t, v1, v2, by rw [List.getElem?_append_left (by rw [h.len]; exact hi)]; exact e1, e2⟩
  · rw [List.getElem?_append_right (by omega)] at e
    obtain ⟨t, v1, v2, e1, e2⟩ := k.at_ _ d e
    exact ⟨t, v1, v2, by rw [List.getElem?_append_right (by rw [h.len]; omega), h.len]; exact e1, e2⟩
theorem PairsR.one {H H1 : Hp} {d : D} {t : Addr} {v1 v2 : V} (h : H1 t = some (.tup [v1, v2])) (r1 : Rep H d v1) (r2 : Rep H d v2) : PairsR H H1 [d] [.ref t] :=
  ⟨rfl, fun i d' e => by
    cases i with
    | zero =>
      have e : d = d' := Option.some.inj e
      subst e
      exact ⟨t, v1, v2, rfl, h, r1, r2⟩
    | succ i => cases e⟩
theorem PairsR.init {H H1 : Hp} {ds : List D} {d : D} {xs : List V} (h : PairsR H H1 (ds ++ [d]) xs) : PairsR H H1 ds xs.dropLast ∧ ∃ t v1 v2, xs[xs.length - 1]? = some (.ref t) ∧ H1 t = some (.tup [v1, v2]) ∧ Rep H d v1 ∧ Rep H d v2 := by
  have hl := h.len
  rw [List.length_append, List.length_singleton] at hl
  refine ⟨⟨by rw [List.length_dropLast]; omega, fun i d' e => ?_⟩, ?_⟩
  · have hi : i < ds.length := (List.getElem?_eq_some_iff.mp e).1
    obtain ⟨t, v1, v2, e1, e2⟩ := h.at_ i d' (by rw [List.getElem?_append_left hi]; exact e)
    refine ⟨t, v1, v2, ?_, e2⟩
    rw [List.getElem?_dropLast, if_pos (by omega)]
    exact e1
  · obtain ⟨t, v1, v2, e1, e2⟩ := h.at_ ds.length d (by simp)
    exact ⟨t, v1, v2, by rw [hl, Nat.add_sub_cancel]; exact e1, e2⟩
theorem tup_upd {H : Hp} {p : Addr} {o : HO} {xs : List V} (h : H p = some (.lst xs)) : ∀ t ys, H t = some (.tup ys) → upd H p o t = some (.tup ys) := fun t ys e => by
  have : t ≠ p := fun z => by
    subst z
    rw [h] at e
    cases e
  rw [upd_ne this]
  exact e
theorem lc_pairs {H H3 : Hp} {a1 a2 : Addr} {ys zs : List V} {es : List D} {σ : L2.St} {Qc : VK} (h1 : (wipe σ [7])[4]? = some (some (.ref a1))) (h2 : (wipe σ [7])[5]? = some (some (.ref a2))) (h2' : σ[5]? = some (some (.ref a2))) (h7 : 7 < σ.length)
    (s3 : Same H H3) (k1 : ∀ H4, Same H3 H4 → SqL K H4 a1 ys ∨ SqT K H4 a1 ys) (k2 : ∀ H4, Same H3 H4 → SqL K H4 a2 zs ∨ SqT K H4 a2 zs) (q1 : Reps H es ys) (q2 : Reps H es zs) (hz : es.length ≤ 1000000)
    (q : ∀ b acc H4, Same H3 H4 → H3 b = none → H4 b = some (.lst acc) → PairsR H H4 es acc → Qc (.ref b) H4) :
    tLc (iRng1 (tCons (tCB (rLenS K) (tCons (tVar 5) tNil)) tNil)) (gName 7) tYes (tTup (tCons (tOp (rIx K) (tVar 4) (tVar 7)) (tCons (tOp (rIx K) (tVar 5) (tVar 7)) tNil))) [7] σ H3 Qc := by
  have ly := q1.length
  have lz := q2.length
  refine ⟨_, h2', a2, zs, rfl, k2 H3 (Same.refl _), _, rfl, by omega, by omega, fun b hb => ?_⟩
  refine lc_range (lo := 0) (n := ((zs.length : Nat) : Int).toNat) (fun k H4 => Same H3 H4 ∧ ∃ acc, H4 b = some (.lst acc) ∧ PairsR H H4 (es.take k) acc) ⟨Same.new hb, [], upd_same, rfl, fun i d e => by rw [List.take_zero] at e; cases e⟩ (fun k H4 hk hP => ?_) (fun H4 hP => ?_)
  · obtain ⟨s4, acc, eb, R⟩ := hP
    have hk' : k < es.length := by omega
    have h7k : ((wipe σ [7]).set 7 (some (.int (0 + (k : Int)))))[7]? = some (some (.int (0 + (k : Int)))) := by
      rw [List.getElem?_set_self]
      rw [wipe_length]
      exact h7
    have h4k : ((wipe σ [7]).set 7 (some (.int (0 + (k : Int)))))[4]? = some (some (.ref a1)) := by
      rw [List.getElem?_set_ne (by decide)]
      exact h1
    have h5k : ((wipe σ [7]).set 7 (some (.int (0 + (k : Int)))))[5]? = some (some (.ref a2)) := by
      rw [List.getElem?_set_ne (by decide)]
      exact h2
    refine ⟨?_, ?_⟩
    · show (((σ.set 7 none).set 7 _).set 7 none) = σ.set 7 none
      simp [List.set_set]
    have hy : ∃ y, ys[k]? = some y ∧ Rep H es[k] y := by
      have hlt : k < ys.length := by omega
      obtain ⟨d, hd, hr⟩ := q1.get (List.getElem?_eq_getElem hlt)
      rw [List.getElem?_eq_getElem hk'] at hd
      exact ⟨_, List.getElem?_eq_getElem hlt, (Option.some.inj hd) ▸ hr⟩
    have hz' : ∃ y, zs[k]? = some y ∧ Rep H es[k] y := by
      have hlt : k < zs.length := by omega
      obtain ⟨d, hd, hr⟩ := q2.get (List.getElem?_eq_getElem hlt)
      rw [List.getElem?_eq_getElem hk'] at hd
      exact ⟨_, List.getElem?_eq_getElem hlt, (Option.some.inj hd) ▸ hr⟩
    obtain ⟨y, hy1, hy2⟩ := hy
    obtain ⟨z, hz1, hz2⟩ := hz'
    have ix : ∀ {a : Addr} {xs : List V} {v : V} (Q : VK), (SqL K H4 a xs ∨ SqT K H4 a xs) → xs[k]? = some v → Q v H4 → rIx K (.ref a) (.int (0 + (k : Int))) H4 Q := fun {a xs v} Q h e q => by
      have e0 : (0 : Int) + (k : Int) = (k : Int) := by omega
      rw [e0]
      rcases h with h | h
      · exact .inl ⟨a, xs, _, v, rfl, rfl, h, at_nat e, q⟩
      · exact .inr (.inl ⟨a, xs, _, v, rfl, rfl, h, at_nat e, q⟩)
    simp only [tYes, if_true]
    refine ⟨_, h4k, _, h7k, ix _ (k1 H4 s4) hy1 ⟨_, h5k, _, h7k, ix _ (k2 H4 s4) hz1 ⟨sz5 (by simp), fun t ht => ⟨acc, Same.new ht _ _ eb, ?_, ?_, acc ++ [.ref t], upd_same, ?_⟩⟩⟩⟩
    · have := R.len
      rw [List.length_take] at this
      exact sz5' (by omega)
    · exact (s4.trans (Same.new ht)).mut hb
    · have m : ∀ t' ys, H4 t' = some (.tup ys) → upd (upd H4 t (.tup [y, z])) b (.lst (acc ++ [.ref t])) t' = some (.tup ys) := fun t' ys e =>
        tup_upd (Same.new ht _ _ eb) _ _ (Same.new ht _ _ e)
      have ht2 : upd (upd H4 t (.tup [y, z])) b (.lst (acc ++ [.ref t])) t = some (.tup [y, z]) := tup_upd (Same.new ht _ _ eb) _ _ upd_same
      rw [List.take_add_one, List.getElem?_eq_getElem hk']
      exact (R.mono m).app (PairsR.one ht2 hy2 hz2)
  · obtain ⟨s4, acc, eb, R⟩ := hP
    rw [List.take_of_length_le (by omega)] at R
    exact q b acc H4 s4 hb eb R
theorem okSame (T : Top K w mg) : Ok P w K mg base CX0 1 "_law_same" ["told", "due"] spSame := by
  have m_range := T.m_range
  have m_len := T.m_len
  have m_isinstance := T.m_isinstance
  have m_bool := T.m_bool
  have m_int := T.m_int
  have m_str := T.m_str
  have m_dict := T.m_dict
  have m_tuple := T.m_tuple
  have m_list := T.m_list
  refine mkOk T.f__law_same scLawSame (fun vs H Q E h => ?_) (fun f cdv A outer s H vs Q E hr h => ?_)
  · obtain ⟨_, _, _, rfl, _⟩ := h
    rfl
  · obtain ⟨x, y, d, rfl, hx, hy, hd, q⟩ := h
    refine ⟨_, pss_cons (ps_set (i := 2) scLawSame.nd rfl (Or.inl rfl) (pe_lst (pa_cons (pe_tup (pa_cons (pv 0) (pa_cons (pv 1) pa_nil))) pa_nil)))
  (pss_cons (ps_for PassesOwn.never rfl (pi_range1 rfl m_range (pa_cons (pe_op op_pow (pe_int) (pe_int)) pa_nil)) (pg_name (i := 3) scLawSame.nd rfl (Or.inl rfl))
  (pss_cons (ps_if (pt_cmpR (op_eqE hr.units0) (pv 2) (pe_lst (pa_nil)) (nomark _))
  (pss_one (ps_ret (pe_bl)))
  (pss_nil))
  (pss_cons (ps_asg (pe_bm0 PySem.F.plainAttrs_list PySem.F.slot_list_pop PySem.F.type_list_pop mt_pop (pv 2)) (pg_tup (n := 2) rfl (pgs_cons (pg_name (i := 4) scLawSame.nd rfl (Or.inr rfl)) (pgs_cons (pg_name (i := 5) scLawSame.nd rfl (Or.inr rfl)) pgs_nil))))
  (pss_one (ps_if (pt_cmpR op_isN (pv 5) (pe_non) (nomark _))
  (pss_one (ps_if (pt_cmpR op_notN (pv 4) (pe_non) (nomark _))
  (pss_one (ps_ret (pe_bl)))
  (pss_nil)))
  (pss_one (ps_if (pt_val (pe_callB call_isi (by rfl) m_isinstance (by decide +kernel) (pa_cons (pv 5) (pa_cons (pe_bltn (u := .type "bool") (v := .ty "bool") (by rfl) m_bool (by decide +kernel) rfl) pa_nil))))
  (pss_one (ps_if (PW.pt (pw_or (pt_not (pt_val (pe_callB call_isi (by rfl) m_isinstance (by decide +kernel) (pa_cons (pv 4) (pa_cons (pe_bltn (u := .type "bool") (v := .ty "bool") (by rfl) m_bool (by decide +kernel) rfl) pa_nil))))) (pw_or1 (pt_cmpR op_ne (pv 4) (pv 5) (nomark _)))))
  (pss_one (ps_ret (pe_bl)))
  (pss_nil)))
  (pss_one (ps_if (pt_val (pe_callB call_isi (by rfl) m_isinstance (by decide +kernel) (pa_cons (pv 5) (pa_cons (pe_bltn (u := .type "int") (v := .ty "int") (by rfl) m_int (by decide +kernel) rfl) pa_nil))))
  (pss_one (ps_if (PW.pt (pw_or (pt_not (pt_val (pe_callB call_isi (by rfl) m_isinstance (by decide +kernel) (pa_cons (pv 4) (pa_cons (pe_bltn (u := .type "int") (v := .ty "int") (by rfl) m_int (by decide +kernel) rfl) pa_nil))))) (pw_or (pt_val (pe_callB call_isi (by rfl) m_isinstance (by decide +kernel) (pa_cons (pv 4) (pa_cons (pe_bltn (u := .type "bool") (v := .ty "bool") (by rfl) m_bool (by decide +kernel) rfl) pa_nil)))) (pw_or1 (pt_cmpR op_ne (pv 4) (pv 5) (nomark _))))))
  (pss_one (ps_ret (pe_bl)))
  (pss_nil)))
  (pss_one (ps_if (pt_val (pe_callB call_isi (by rfl) m_isinstance (by decide +kernel) (pa_cons (pv 5) (pa_cons (pe_bltn (u := .type "str") (v := .ty "str") (by rfl) m_str (by decide +kernel) rfl) pa_nil))))
  (pss_one (ps_if (PW.pt (pw_or (pt_not (pt_val (pe_callB call_isi (by rfl) m_isinstance (by decide +kernel) (pa_cons (pv 4) (pa_cons (pe_bltn (u := .type "str") (v := .ty "str") (by rfl) m_str (by decide +kernel) rfl) pa_nil))))) (pw_or1 (pt_cmpR op_ne (pv 4) (pv 5) (nomark _)))))
  (pss_one (ps_ret (pe_bl)))
  (pss_nil)))
  (pss_one (ps_if (pt_val (pe_callB call_isi (by rfl) m_isinstance (by decide +kernel) (pa_cons (pv 5) (pa_cons (pe_bltn (u := .type "dict") (v := .ty "dict") (by rfl) m_dict (by decide +kernel) rfl) pa_nil))))
  (pss_never)
  (pss_one (ps_if (PW.pt (pw_or (PW.pt (pw_and (pt_val (pe_callB call_isi (by rfl) m_isinstance (by decide +kernel) (pa_cons (pv 5) (pa_cons (pe_bltn (u := .type "tuple") (v := .ty "tuple") (by rfl) m_tuple (by decide +kernel) rfl) pa_nil)))) (pw_and1 (pt_not (pt_val (pe_callB call_isi (by rfl) m_isinstance (by decide +kernel) (pa_cons (pv 4) (pa_cons (pe_bltn (u := .type "tuple") (v := .ty "tuple") (by rfl) m_tuple (by decide +kernel) rfl) pa_nil)))))))) (pw_or1 (PW.pt (pw_and (pt_val (pe_callB call_isi (by rfl) m_isinstance (by decide +kernel) (pa_cons (pv 5) (pa_cons (pe_bltn (u := .type "list") (v := .ty "list") (by rfl) m_list (by decide +kernel) rfl) pa_nil)))) (pw_and1 (pt_not (pt_val (pe_callB call_isi (by rfl) m_isinstance (by decide +kernel) (pa_cons (pv 4) (pa_cons (pe_bltn (u := .type "list") (v := .ty "list") (by rfl) m_list (by decide +kernel) rfl) pa_nil)))))))))))
  (pss_one (ps_ret (pe_bl)))
  (pss_one (ps_if (pt_cmpR op_ne (pe_callB (call_len_seqK (K := K) rfl) (by rfl) m_len PySem.boot_len (pa_cons (pv 4) pa_nil)) (pe_callB (call_len_seqK (K := K) rfl) (by rfl) m_len PySem.boot_len (pa_cons (pv 5) pa_nil)) (nomark _))
  (pss_one (ps_ret (pe_bl)))
  (pss_one (ps_expr (pe_bm PySem.F.plainAttrs_list PySem.F.slot_list_extend PySem.F.type_list_extend mt_extend (pv 2) (pa_cons (pe_lc (own := [("k", 7)]) rfl scLawSame.nd (pi_range1 rfl m_range (pa_cons (pe_callB (call_len_seqK (K := K) rfl) (by rfl) m_len PySem.boot_len (pa_cons (pv 5) pa_nil)) pa_nil)) (blkOk_by (own := [("k", 7)]) (N := ["told", "due", "pairs", "turn", "one", "other", "key", "k"]) (sc := defScope sLawSame) (by decide +kernel)) (fun _ _ _ _ _ => pg_name (i := 7) scLawSame.nd rfl (Or.inl rfl)) (fun _ _ _ _ _ => pts_nil) (fun _ _ _ _ _ => pe_tup (pa_cons (pe_ix (ix_seqK (K := K) rfl) (pv 4) (pv 7) (fun _ _ => rfl)) (pa_cons (pe_ix (ix_seqK (K := K) rfl) (pv 5) (pv 7) (fun _ _ => rfl)) pa_nil)))) pa_nil)))))))))))))))))))))
  (pss_one (ps_ret (pe_bl)))), ?_⟩
    (try simp only [cx_K, cx_w, rIn, rMulS, CwR.tReplC, tM1, tBM0, rPop, rExtend, rReverse, rLenS, rEqE, rNeE, rSetL, rIntI, rIntB, tBM, rAppend, rIxL, rIxT, rCat, rSlL, rSlS, gTup, tYes, wipe, tSeq, tAsg, tIfS, tRet, tRetN, tDrop, tNext, tBreak, tCont, tNever, tAug, ipI, tPar, tPar3, gName, gCons, gNil, gSub, tVar, tC, tOp, tUn, tIf, tAndV, tOrV, tNotV, tAnd, tOr, tNot, L2.tB, tTest, tCmp, tChain, tCB, tCons, tNil, tCall, tTup, tLst, tSl, tPart, tNoPart, rI, rI0, rU, rEq, rNe, scal_ii, scal_ss, scal_bb, scal_nn, scal_is, scal_si, rIxS, S_len, S_cps, S_inj, L2.start, List.map_cons, List.map_nil, List.cons_append, List.nil_append, List.append_nil, List.getElem?_cons_zero, List.getElem?_cons_succ, List.set_cons_zero, List.set_cons_succ, List.length_cons, List.length_nil, Nat.reduceAdd, Nat.reduceSub, List.replicate_succ, List.replicate_zero, Option.some.injEq, V.int.injEq, V.str.injEq, V.bl.injEq, V.ref.injEq, List.cons.injEq, and_true, true_and, exists_eq_left, exists_eq_left', exists_and_left, exists_eq, exists_eq', decide_eq_true_eq, Bool.not_eq_true', decide_eq_false_iff_not, Bool.false_eq_true, if_false, if_true, reduceIte, ite_self, CMul, CPow, CDiv])
    refine ⟨by decide, fun t0 ht0 => ⟨by decide, fun p hp => ?_⟩⟩
    refine ⟨10, 7, rfl, rfl, ⟨by decide, by decide, by decide⟩, _, rfl, by decide, by decide, for_range (lo := 0) (n := 10 ^ 7) (fun i σ H1 => ∃ (p : Addr) (xs : List V) (ds : List D) (e3 e4 e5 e6 e7 : Option V), σ = [some x, some y, some (.ref p), e3, e4, e5, e6, e7] ∧ Same H H1 ∧ H p = none ∧ H1 p = some (.lst xs) ∧ PairsR H H1 ds xs ∧ i + dsizes ds ≤ dsize d) ?_ ?_ ?_⟩
    · have hp0 : H p = none := (Same.new ht0).free hp
      refine ⟨p, _, [d], _, _, _, _, _, rfl, (Same.new ht0).trans (Same.new hp), hp0, upd_same, PairsR.one (t := t0) ?_ hx hy, by simp [dsizes]⟩
      exact Same.new hp _ _ upd_same
    · rintro i σ H1 hi ⟨p, xs, ds, e3, e4, e5, e6, e7, rfl, sm, hp, ep, R, hsz⟩
      (try simp only [cx_K, cx_w, rIn, rMulS, CwR.tReplC, tM1, tBM0, rPop, rExtend, rReverse, rLenS, rEqE, rNeE, rSetL, rIntI, rIntB, tBM, rAppend, rIxL, rIxT, rCat, rSlL, rSlS, gTup, tYes, wipe, tSeq, tAsg, tIfS, tRet, tRetN, tDrop, tNext, tBreak, tCont, tNever, tAug, ipI, tPar, tPar3, gName, gCons, gNil, gSub, tVar, tC, tOp, tUn, tIf, tAndV, tOrV, tNotV, tAnd, tOr, tNot, L2.tB, tTest, tCmp, tChain, tCB, tCons, tNil, tCall, tTup, tLst, tSl, tPart, tNoPart, rI, rI0, rU, rEq, rNe, scal_ii, scal_ss, scal_bb, scal_nn, scal_is, scal_si, rIxS, S_len, S_cps, S_inj, L2.start, List.map_cons, List.map_nil, List.cons_append, List.nil_append, List.append_nil, List.getElem?_cons_zero, List.getElem?_cons_succ, List.set_cons_zero, List.set_cons_succ, List.length_cons, List.length_nil, Nat.reduceAdd, Nat.reduceSub, List.replicate_succ, List.replicate_zero, Option.some.injEq, V.int.injEq, V.str.injEq, V.bl.injEq, V.ref.injEq, List.cons.injEq, and_true, true_and, exists_eq_left, exists_eq_left', exists_and_left, exists_eq, exists_eq', decide_eq_true_eq, Bool.not_eq_true', decide_eq_false_iff_not, Bool.false_eq_true, if_false, if_true, reduceIte, ite_self, CMul, CPow, CDiv])
      refine ⟨Nat.zero_le _, fun b hb => ⟨xs, SqL.of (Same.new hb _ _ ep), SqL.of upd_same, ?_⟩⟩
      have sm2 : Same H (upd H1 b (.lst [])) := sm.trans (Same.new hb)
      have R2 := R.mono (H2 := upd H1 b (.lst [])) (fun t ys e => Same.new hb _ _ e)
      have ep2 : upd H1 b (.lst []) p = some (.lst xs) := Same.new hb _ _ ep
      generalize upd H1 b (.lst []) = H2 at sm2 R2 ep2
      rcases List.eq_nil_or_concat ds with hds | ⟨ds, e, hds⟩
      · subst hds
        have hx0 : xs = [] := List.length_eq_zero_iff.mp R.len
        subst hx0
        exact iteT (q _ sm2)
      · rw [List.concat_eq_append] at hds
        subst hds
        rw [dsizes_app] at hsz
        have hxl : xs.isEmpty = false := by
          have := R.len
          cases xs with
          | nil => simp at this
          | cons _ _ => rfl
        rw [hxl]
        refine iteF ?_
        obtain ⟨R3, t, v1, v2, et, e2, r1, r2⟩ := R2.init
        have sm3 : Same H (upd H2 p (.lst xs.dropLast)) := sm2.mut hp
        have R4 := R3.mono (tup_upd (o := .lst xs.dropLast) ep2)
        have hds1 : dsizes [e] = dsize e := by simp [dsizes]
        have hpos := dsize_pos e
        refine ⟨.inl ⟨rfl, _, SqL.of ep2⟩, xs, ep2, _, et, t, rfl, [v1, v2], SqT.of (tup_upd ep2 _ _ e2), rfl, v1, [v2], rfl, v2, [], rfl, rfl, ?_⟩
        cases e with
        | non =>
          obtain rfl : v1 = .non := r1
          obtain rfl : v2 = .non := r2
          rw [if_pos rfl, if_neg (fun z => z rfl)]
          exact ⟨p, _, ds, _, _, _, _, _, ⟨rfl, rfl, rfl, rfl, rfl, rfl⟩, sm3, hp, upd_same, R4, by omega⟩
        | bl k =>
          obtain rfl : v1 = .bl k := r1
          obtain rfl : v2 = .bl k := r2
          rw [if_neg (fun z => nomatch z)]
          refine isi (K := K) (.bl _) (kit_ty (b := "bool") (r := true) (by decide +kernel)) ⟨true, rfl, iteT ?_⟩
          refine isi (K := K) (.bl _) (kit_ty (b := "bool") (r := true) (by decide +kernel)) ⟨true, rfl, ?_⟩
          rw [if_neg (fun z => nomatch z)]
          refine ⟨rfl, ?_⟩
          rw [if_neg (fun z => z rfl)]
          exact ⟨p, _, ds, _, _, _, _, _, ⟨rfl, rfl, rfl, rfl, rfl, rfl⟩, sm3, hp, upd_same, R4, by omega⟩
        | int k =>
          obtain rfl : v1 = .int k := r1
          obtain rfl : v2 = .int k := r2
          rw [if_neg (fun z => nomatch z)]
          refine isi (K := K) (.int _) (kit_ty (b := "bool") (r := false) (by decide +kernel)) ⟨false, rfl, iteF ?_⟩
          refine isi (K := K) (.int _) (kit_ty (b := "int") (r := true) (by decide +kernel)) ⟨true, rfl, iteT ?_⟩
          refine isi (K := K) (.int _) (kit_ty (b := "int") (r := true) (by decide +kernel)) ⟨true, rfl, ?_⟩
          rw [if_neg (fun z => nomatch z)]
          refine isi (K := K) (.int _) (kit_ty (b := "bool") (r := false) (by decide +kernel)) ⟨false, rfl, iteF ?_⟩
          refine ⟨rfl, ?_⟩
          rw [if_neg (fun z => z rfl)]
          exact ⟨p, _, ds, _, _, _, _, _, ⟨rfl, rfl, rfl, rfl, rfl, rfl⟩, sm3, hp, upd_same, R4, by omega⟩
        | str k =>
          obtain rfl : v1 = .str (S k) := r1
          obtain rfl : v2 = .str (S k) := r2
          rw [if_neg (fun z => nomatch z)]
          refine isi (K := K) (.str _) (kit_ty (b := "bool") (r := false) (by decide +kernel)) ⟨false, rfl, iteF ?_⟩
          refine isi (K := K) (.str _) (kit_ty (b := "int") (r := false) (by decide +kernel)) ⟨false, rfl, iteF ?_⟩
          refine isi (K := K) (.str _) (kit_ty (b := "str") (r := true) (by decide +kernel)) ⟨true, rfl, iteT ?_⟩
          refine isi (K := K) (.str _) (kit_ty (b := "str") (r := true) (by decide +kernel)) ⟨true, rfl, ?_⟩
          rw [if_neg (fun z => nomatch z)]
          refine ⟨rfl, ?_⟩
          rw [if_neg (fun z => z rfl)]
          exact ⟨p, _, ds, _, _, _, _, _, ⟨rfl, rfl, rfl, rfl, rfl, rfl⟩, sm3, hp, upd_same, R4, by omega⟩
        | tup es =>
          obtain ⟨a1, ys, rfl, g1, q1⟩ := r1
          obtain ⟨a2, zs, rfl, g2, q2⟩ := r2
          have k1 := sm3 _ _ g1
          have k2 := sm3 _ _ g2
          rw [if_neg (fun z => nomatch z)]
          refine isi (K := K) (.tup k2) (kit_ty (b := "bool") (r := false) (by decide +kernel)) ⟨false, rfl, iteF ?_⟩
          refine isi (K := K) (.tup k2) (kit_ty (b := "int") (r := false) (by decide +kernel)) ⟨false, rfl, iteF ?_⟩
          refine isi (K := K) (.tup k2) (kit_ty (b := "str") (r := false) (by decide +kernel)) ⟨false, rfl, iteF ?_⟩
          refine isi (K := K) (.tup k2) (kit_ty (b := "dict") (r := false) (by decide +kernel)) ⟨false, rfl, iteF ?_⟩
          refine isi (K := K) (.tup k2) (kit_ty (b := "tuple") (r := true) (by decide +kernel)) ⟨true, rfl, ?_⟩
          rw [if_pos rfl]
          refine isi (K := K) (.tup k1) (kit_ty (b := "tuple") (r := true) (by decide +kernel)) ⟨true, rfl, ?_⟩
          rw [if_neg (fun z => nomatch z)]
          refine isi (K := K) (.tup k2) (kit_ty (b := "list") (r := false) (by decide +kernel)) ⟨false, rfl, iteF ?_⟩
          refine ⟨_, rfl, ys, .inr (SqT.of k1), _, rfl, zs, .inr (SqT.of k2), ?_⟩
          rw [if_neg (fun z => z (by rw [q1.length, q2.length]))]
          refine ⟨.inl ⟨rfl, _, SqL.of upd_same⟩, ?_⟩
          have hes : es.length ≤ dsizes es := len_dsizes es
          have hde : dsize (.tup es) = 1 + dsizes es := by simp [dsize]
          have hxs := R3.len
          have hdl := len_dsizes ds
          refine lc_pairs (H := H) (ys := ys) (zs := zs) (es := es) rfl rfl rfl (by simp) sm3 (fun H4 s4 => .inr <| SqT.of (s4 _ _ k1)) (fun H4 s4 => .inr <| SqT.of (s4 _ _ k2)) q1 q2 (by omega) fun c acc H4 s4 hc ec R5 => ?_
          refine ⟨c, rfl, _, s4 _ _ upd_same, acc, ec, sz5 ?_, p, _, ds ++ es, _, _, _, _, _, ⟨rfl, rfl, rfl, rfl, rfl, rfl⟩, (sm3.trans s4).mut hp, hp, upd_same, ?_, ?_⟩
          · have := R5.len
            omega
          · exact ((R4.mono fun t ys e => s4 _ _ e).app R5).mono (tup_upd (s4 _ _ upd_same))
          · rw [dsizes_app]
            omega
        | lst es =>
          obtain ⟨a1, ys, rfl, g1, q1⟩ := r1
          obtain ⟨a2, zs, rfl, g2, q2⟩ := r2
          have k1 := sm3 _ _ g1
          have k2 := sm3 _ _ g2
          rw [if_neg (fun z => nomatch z)]
          refine isi (K := K) (.lst k2) (kit_ty (b := "bool") (r := false) (by decide +kernel)) ⟨false, rfl, iteF ?_⟩
          refine isi (K := K) (.lst k2) (kit_ty (b := "int") (r := false) (by decide +kernel)) ⟨false, rfl, iteF ?_⟩
          refine isi (K := K) (.lst k2) (kit_ty (b := "str") (r := false) (by decide +kernel)) ⟨false, rfl, iteF ?_⟩
          refine isi (K := K) (.lst k2) (kit_ty (b := "dict") (r := false) (by decide +kernel)) ⟨false, rfl, iteF ?_⟩
          refine isi (K := K) (.lst k2) (kit_ty (b := "tuple") (r := false) (by decide +kernel)) ⟨false, rfl, ?_⟩
          rw [if_neg (fun z => nomatch z)]
          refine isi (K := K) (.lst k2) (kit_ty (b := "list") (r := true) (by decide +kernel)) ⟨true, rfl, iteT ?_⟩
          refine isi (K := K) (.lst k1) (kit_ty (b := "list") (r := true) (by decide +kernel)) ⟨true, rfl, ?_⟩
          rw [if_neg (fun z => nomatch z)]
          refine ⟨_, rfl, ys, .inl (SqL.of k1), _, rfl, zs, .inl (SqL.of k2), ?_⟩
          rw [if_neg (fun z => z (by rw [q1.length, q2.length]))]
          refine ⟨.inl ⟨rfl, _, SqL.of upd_same⟩, ?_⟩
          have hes : es.length ≤ dsizes es := len_dsizes es
          have hde : dsize (.lst es) = 1 + dsizes es := by simp [dsize]
          have hxs := R3.len
          have hdl := len_dsizes ds
          refine lc_pairs (H := H) (ys := ys) (zs := zs) (es := es) rfl rfl rfl (by simp) sm3 (fun H4 s4 => .inl <| SqL.of (s4 _ _ k1)) (fun H4 s4 => .inl <| SqL.of (s4 _ _ k2)) q1 q2 (by omega) fun c acc H4 s4 hc ec R5 => ?_
          refine ⟨c, rfl, _, s4 _ _ upd_same, acc, ec, sz5 ?_, p, _, ds ++ es, _, _, _, _, _, ⟨rfl, rfl, rfl, rfl, rfl, rfl⟩, (sm3.trans s4).mut hp, hp, upd_same, ?_, ?_⟩
          · have := R5.len
            omega
          · exact ((R4.mono fun t ys e => s4 _ _ e).app R5).mono (tup_upd (s4 _ _ upd_same))
          · rw [dsizes_app]
            omega
    · rintro σ H1 ⟨p, xs, ds, e3, e4, e5, e6, e7, rfl, sm, hp, ep, R, hsz⟩
      exfalso
      have : (10 ^ 7 : Nat) = 10000000 := by decide
      omega
end
end K92


namespace K92
open PySem PySem.Spec PyProof.Rows L2 KB
section
variable {P : Program} {w : World} {K : PySem.W.Frag} {mg : Str → Option Value} {base : Heap}
/-! ### kinds of values -/
inductive Kd where
  | non | bl | int | str | lst | tup | dct
  deriving DecidableEq
def Kd.name : Kd → String
  | .non => "NoneType"
  | .bl => "bool"
  | .int => "int"
  | .str => "str"
  | .lst => "list"
  | .tup => "tuple"
  | .dct => "dict"
/-- v is of this kind -/
inductive KdOf (H : Hp) : V → Kd → Prop where
  | non : KdOf H .non .non
  | bl (b : Bool) : KdOf H (.bl b) .bl
  | int (i : Int) : KdOf H (.int i) .int
  | str (s : Str) : KdOf H (.str s) .str
  | lst {a : Addr} {xs : List V} (h : H a = some (.lst xs)) : KdOf H (.ref a) .lst
  | tup {a : Addr} {xs : List V} (h : H a = some (.tup xs)) : KdOf H (.ref a) .tup
  | dct {a : Addr} (h : H a = some (.dK [])) : KdOf H (.ref a) .dct
theorem KdOf.ty {H : Hp} {v : V} {k : Kd} (h : KdOf H v k) : TyOf K H v (.type k.name) := by
  cases h with
  | non => exact .non
  | bl b => exact .bl b
  | int i => exact .int i
  | str s => exact .str s
  | lst h => exact .lst h
  | tup h => exact .tup h
  | dct h => exact .dK h
theorem KdOf.same {H H' : Hp} {v : V} {k : Kd} (h : KdOf H v k) (s : Same H H') : KdOf H' v k := by
  cases h with
  | non => exact .non
  | bl b => exact .bl b
  | int i => exact .int i
  | str s => exact .str s
  | lst h => exact .lst (s _ _ h)
  | tup h => exact .tup (s _ _ h)
  | dct h => exact .dct (s _ _ h)
def isKd : Kd → Kd → Bool
  | .bl, .int => true
  | a, b => decide (a = b)
theorem kd_kit (a b : Kd) (hb : b ≠ .non) : kitB a.name b.name = some (isKd a b) := by
  cases a <;> cases b <;> first | exact absurd rfl hb | decide +kernel
theorem isk {v : V} {H : Hp} {Q : VK} {k : Kd} (b : Kd) (hb : b ≠ .non) (h : KdOf H v k) (q : Q (.bl (isKd k b)) H) : rIsi K [v, .ty b.name] H Q :=
  isi (K := K) h.ty (kit_ty (kd_kit k b hb)) q
def spWhole : Sp := fun vs H Q _ => ∃ v k, vs = [v] ∧ KdOf H v k ∧ Q (.bl (decide (k = .int))) H
theorem okWholeBeside (T : Top K w mg) : Ok P w K mg base CX0 1 "is_whole_beside" ["value"] spWhole := by
  have m_isinstance := T.m_isinstance
  have m_int := T.m_int
  have m_bool := T.m_bool
  refine mkOk T.f_is_whole_beside scIsWholeBeside (fun vs H Q E h => ?_) (fun f cdv A outer s H vs Q E hr h => ?_)
  · obtain ⟨_, _, rfl, _⟩ := h
    rfl
  · obtain ⟨v, k, rfl, hv, q⟩ := h
    refine ⟨_, pss_one (ps_ret (pe_and (pe_callB call_isi (by rfl) m_isinstance (by decide +kernel) (pa_cons (pv 0) (pa_cons (pe_bltn (u := .type "int") (v := .ty "int") (by rfl) m_int (by decide +kernel) rfl) pa_nil))) (pe_one (pe_not (pe_callB call_isi (by rfl) m_isinstance (by decide +kernel) (pa_cons (pv 0) (pa_cons (pe_bltn (u := .type "bool") (v := .ty "bool") (by rfl) m_bool (by decide +kernel) rfl) pa_nil))))))), ?_⟩
    (try simp only [cx_K, cx_w, rIn, rMulS, CwR.tReplC, tM1, tBM0, rPop, rExtend, rReverse, rLenS, rEqE, rNeE, rSetL, rIntI, rIntB, tBM, rAppend, rIxL, rIxT, rCat, rSlL, rSlS, gTup, tYes, wipe, tSeq, tAsg, tIfS, tRet, tRetN, tDrop, tNext, tBreak, tCont, tNever, tAug, ipI, tPar, tPar3, gName, gCons, gNil, gSub, tVar, tC, tOp, tUn, tIf, tAndV, tOrV, tNotV, tAnd, tOr, tNot, L2.tB, tTest, tCmp, tChain, tCB, tCons, tNil, tCall, tTup, tLst, tSl, tPart, tNoPart, rI, rI0, rU, rEq, rNe, scal_ii, scal_ss, scal_bb, scal_nn, scal_is, scal_si, rIxS, S_len, S_cps, S_inj, L2.start, List.map_cons, List.map_nil, List.cons_append, List.nil_append, List.append_nil, List.getElem?_cons_zero, List.getElem?_cons_succ, List.set_cons_zero, List.set_cons_succ, List.length_cons, List.length_nil, Nat.reduceAdd, Nat.reduceSub, List.replicate_succ, List.replicate_zero, Option.some.injEq, V.int.injEq, V.str.injEq, V.bl.injEq, V.ref.injEq, List.cons.injEq, and_true, true_and, exists_eq_left, exists_eq_left', exists_and_left, exists_eq, exists_eq', decide_eq_true_eq, Bool.not_eq_true', decide_eq_false_iff_not, Bool.false_eq_true, if_false, if_true, reduceIte, ite_self, CMul, CPow, CDiv])
    refine isk .int (by decide) hv ⟨_, rfl, ite2 (fun h => isk .bl (by decide) hv ⟨_, rfl, qb q ?_⟩) (fun h => qb q ?_)⟩
    · cases k <;> first | rfl | (exact absurd h (by decide))
    · cases k <;> first | rfl | (exact absurd rfl h)
theorem okWholePapers (T : Top K w mg) : Ok P w K mg base CX0 1 "is_whole_papers" ["value"] spWhole := by
  have m_isinstance := T.m_isinstance
  have m_int := T.m_int
  have m_bool := T.m_bool
  refine mkOk T.f_is_whole_papers scIsWholePapers (fun vs H Q E h => ?_) (fun f cdv A outer s H vs Q E hr h => ?_)
  · obtain ⟨_, _, rfl, _⟩ := h
    rfl
  · obtain ⟨v, k, rfl, hv, q⟩ := h
    refine ⟨_, pss_one (ps_ret (pe_and (pe_callB call_isi (by rfl) m_isinstance (by decide +kernel) (pa_cons (pv 0) (pa_cons (pe_bltn (u := .type "int") (v := .ty "int") (by rfl) m_int (by decide +kernel) rfl) pa_nil))) (pe_one (pe_not (pe_callB call_isi (by rfl) m_isinstance (by decide +kernel) (pa_cons (pv 0) (pa_cons (pe_bltn (u := .type "bool") (v := .ty "bool") (by rfl) m_bool (by decide +kernel) rfl) pa_nil))))))), ?_⟩
    (try simp only [cx_K, cx_w, rIn, rMulS, CwR.tReplC, tM1, tBM0, rPop, rExtend, rReverse, rLenS, rEqE, rNeE, rSetL, rIntI, rIntB, tBM, rAppend, rIxL, rIxT, rCat, rSlL, rSlS, gTup, tYes, wipe, tSeq, tAsg, tIfS, tRet, tRetN, tDrop, tNext, tBreak, tCont, tNever, tAug, ipI, tPar, tPar3, gName, gCons, gNil, gSub, tVar, tC, tOp, tUn, tIf, tAndV, tOrV, tNotV, tAnd, tOr, tNot, L2.tB, tTest, tCmp, tChain, tCB, tCons, tNil, tCall, tTup, tLst, tSl, tPart, tNoPart, rI, rI0, rU, rEq, rNe, scal_ii, scal_ss, scal_bb, scal_nn, scal_is, scal_si, rIxS, S_len, S_cps, S_inj, L2.start, List.map_cons, List.map_nil, List.cons_append, List.nil_append, List.append_nil, List.getElem?_cons_zero, List.getElem?_cons_succ, List.set_cons_zero, List.set_cons_succ, List.length_cons, List.length_nil, Nat.reduceAdd, Nat.reduceSub, List.replicate_succ, List.replicate_zero, Option.some.injEq, V.int.injEq, V.str.injEq, V.bl.injEq, V.ref.injEq, List.cons.injEq, and_true, true_and, exists_eq_left, exists_eq_left', exists_and_left, exists_eq, exists_eq', decide_eq_true_eq, Bool.not_eq_true', decide_eq_false_iff_not, Bool.false_eq_true, if_false, if_true, reduceIte, ite_self, CMul, CPow, CDiv])
    refine isk .int (by decide) hv ⟨_, rfl, ite2 (fun h => isk .bl (by decide) hv ⟨_, rfl, qb q ?_⟩) (fun h => qb q ?_)⟩
    · cases k <;> first | rfl | (exact absurd h (by decide))
    · cases k <;> first | rfl | (exact absurd rfl h)
theorem okLawWhole (T : Top K w mg) : Ok P w K mg base CX0 1 "_law_whole" ["value"] spWhole := by
  have m_isinstance := T.m_isinstance
  have m_int := T.m_int
  have m_bool := T.m_bool
  refine mkOk T.f__law_whole scLawWhole (fun vs H Q E h => ?_) (fun f cdv A outer s H vs Q E hr h => ?_)
  · obtain ⟨_, _, rfl, _⟩ := h
    rfl
  · obtain ⟨v, k, rfl, hv, q⟩ := h
    refine ⟨_, pss_one (ps_ret (pe_and (pe_callB call_isi (by rfl) m_isinstance (by decide +kernel) (pa_cons (pv 0) (pa_cons (pe_bltn (u := .type "int") (v := .ty "int") (by rfl) m_int (by decide +kernel) rfl) pa_nil))) (pe_one (pe_not (pe_callB call_isi (by rfl) m_isinstance (by decide +kernel) (pa_cons (pv 0) (pa_cons (pe_bltn (u := .type "bool") (v := .ty "bool") (by rfl) m_bool (by decide +kernel) rfl) pa_nil))))))), ?_⟩
    (try simp only [cx_K, cx_w, rIn, rMulS, CwR.tReplC, tM1, tBM0, rPop, rExtend, rReverse, rLenS, rEqE, rNeE, rSetL, rIntI, rIntB, tBM, rAppend, rIxL, rIxT, rCat, rSlL, rSlS, gTup, tYes, wipe, tSeq, tAsg, tIfS, tRet, tRetN, tDrop, tNext, tBreak, tCont, tNever, tAug, ipI, tPar, tPar3, gName, gCons, gNil, gSub, tVar, tC, tOp, tUn, tIf, tAndV, tOrV, tNotV, tAnd, tOr, tNot, L2.tB, tTest, tCmp, tChain, tCB, tCons, tNil, tCall, tTup, tLst, tSl, tPart, tNoPart, rI, rI0, rU, rEq, rNe, scal_ii, scal_ss, scal_bb, scal_nn, scal_is, scal_si, rIxS, S_len, S_cps, S_inj, L2.start, List.map_cons, List.map_nil, List.cons_append, List.nil_append, List.append_nil, List.getElem?_cons_zero, List.getElem?_cons_succ, List.set_cons_zero, List.set_cons_succ, List.length_cons, List.length_nil, Nat.reduceAdd, Nat.reduceSub, List.replicate_succ, List.replicate_zero, Option.some.injEq, V.int.injEq, V.str.injEq, V.bl.injEq, V.ref.injEq, List.cons.injEq, and_true, true_and, exists_eq_left, exists_eq_left', exists_and_left, exists_eq, exists_eq', decide_eq_true_eq, Bool.not_eq_true', decide_eq_false_iff_not, Bool.false_eq_true, if_false, if_true, reduceIte, ite_self, CMul, CPow, CDiv])
    refine isk .int (by decide) hv ⟨_, rfl, ite2 (fun h => isk .bl (by decide) hv ⟨_, rfl, qb q ?_⟩) (fun h => qb q ?_)⟩
    · cases k <;> first | rfl | (exact absurd h (by decide))
    · cases k <;> first | rfl | (exact absurd rfl h)
def isCount : V → Bool
  | .int i => decide (0 ≤ i)
  | _ => false
def spCount : Sp := fun vs H Q _ => ∃ v k, vs = [v] ∧ KdOf H v k ∧ Q (.bl (isCount v)) H
theorem okCount (T : Top K w mg) : Ok P w K mg base CX0 2 "is_count" ["value"] spCount := by
  have GIsWholeBeside : Ok P w K mg base CX0 1 "is_whole_beside" ["value"] spWhole := okWholeBeside T
  refine mkOk T.f_is_count scIsCount (fun vs H Q E h => ?_) (fun f cdv A outer s H vs Q E hr h => ?_)
  · obtain ⟨_, _, rfl, _⟩ := h
    rfl
  · obtain ⟨v, k, rfl, hv, q⟩ := h
    refine ⟨_, pss_one (ps_ret (pe_and (pcall GIsWholeBeside (hr.mono (by decide)) (by rfl) pass0 (pa_cons (pv 0) pa_nil)) (pe_one (pe_cmpR op_ge (pv 0) (pe_int) (nomark _))))), ?_⟩
    (try simp only [cx_K, cx_w, rIn, rMulS, CwR.tReplC, tM1, tBM0, rPop, rExtend, rReverse, rLenS, rEqE, rNeE, rSetL, rIntI, rIntB, tBM, rAppend, rIxL, rIxT, rCat, rSlL, rSlS, gTup, tYes, wipe, tSeq, tAsg, tIfS, tRet, tRetN, tDrop, tNext, tBreak, tCont, tNever, tAug, ipI, tPar, tPar3, gName, gCons, gNil, gSub, tVar, tC, tOp, tUn, tIf, tAndV, tOrV, tNotV, tAnd, tOr, tNot, L2.tB, tTest, tCmp, tChain, tCB, tCons, tNil, tCall, tTup, tLst, tSl, tPart, tNoPart, rI, rI0, rU, rEq, rNe, scal_ii, scal_ss, scal_bb, scal_nn, scal_is, scal_si, rIxS, S_len, S_cps, S_inj, L2.start, List.map_cons, List.map_nil, List.cons_append, List.nil_append, List.append_nil, List.getElem?_cons_zero, List.getElem?_cons_succ, List.set_cons_zero, List.set_cons_succ, List.length_cons, List.length_nil, Nat.reduceAdd, Nat.reduceSub, List.replicate_succ, List.replicate_zero, Option.some.injEq, V.int.injEq, V.str.injEq, V.bl.injEq, V.ref.injEq, List.cons.injEq, and_true, true_and, exists_eq_left, exists_eq_left', exists_and_left, exists_eq, exists_eq', decide_eq_true_eq, Bool.not_eq_true', decide_eq_false_iff_not, Bool.false_eq_true, if_false, if_true, reduceIte, ite_self, CMul, CPow, CDiv])
    refine ⟨v, k, rfl, hv, _, rfl, ite2 (fun h => ?_) (fun h => ?_)⟩
    · have h := of_decide_eq_true h
      subst h
      cases hv
      exact ⟨_, rfl, q⟩
    · refine qb q ?_
      cases hv <;> first | rfl | (exact absurd rfl h)
def isNum (v : V) (lo : Int) (hi : Option Int) : Bool := match v with
  | .int i => decide (lo ≤ i) && (match hi with | none => true | some h => decide (i ≤ h))
  | _ => false
def spNumber : Sp := fun vs H Q _ => ∃ v k lo hi, vs = [v, .int lo, .int hi] ∧ KdOf H v k ∧ Q (.bl (isNum v lo (some hi))) H
theorem okNumber (T : Top K w mg) : Ok P w K mg base CX0 1 "is_number" ["value", "low", "high"] spNumber := by
  have m_isinstance := T.m_isinstance
  have m_int := T.m_int
  have m_bool := T.m_bool
  refine mkOk T.f_is_number scIsNumber (fun vs H Q E h => ?_) (fun f cdv A outer s H vs Q E hr h => ?_)
  · obtain ⟨_, _, _, _, rfl, _⟩ := h
    rfl
  · obtain ⟨v, k, lo, hi, rfl, hv, q⟩ := h
    refine ⟨_, pss_cons (ps_if (PW.pt (pw_or (pt_val (pe_callB call_isi (by rfl) m_isinstance (by decide +kernel) (pa_cons (pv 0) (pa_cons (pe_bltn (u := .type "bool") (v := .ty "bool") (by rfl) m_bool (by decide +kernel) rfl) pa_nil)))) (pw_or1 (pt_not (pt_val (pe_callB call_isi (by rfl) m_isinstance (by decide +kernel) (pa_cons (pv 0) (pa_cons (pe_bltn (u := .type "int") (v := .ty "int") (by rfl) m_int (by decide +kernel) rfl) pa_nil))))))))
  (pss_one (ps_ret (pe_bl)))
  (pss_nil))
  (pss_one (ps_ret (pe_and (pe_cmpR op_le (pv 1) (pv 0) (nomark _)) (pe_one (pe_or (pe_cmpR op_isN (pv 2) (pe_non) (nomark _)) (pe_one (pe_cmpR op_le (pv 0) (pv 2) (nomark _)))))))), ?_⟩
    (try simp only [cx_K, cx_w, rIn, rMulS, CwR.tReplC, tM1, tBM0, rPop, rExtend, rReverse, rLenS, rEqE, rNeE, rSetL, rIntI, rIntB, tBM, rAppend, rIxL, rIxT, rCat, rSlL, rSlS, gTup, tYes, wipe, tSeq, tAsg, tIfS, tRet, tRetN, tDrop, tNext, tBreak, tCont, tNever, tAug, ipI, tPar, tPar3, gName, gCons, gNil, gSub, tVar, tC, tOp, tUn, tIf, tAndV, tOrV, tNotV, tAnd, tOr, tNot, L2.tB, tTest, tCmp, tChain, tCB, tCons, tNil, tCall, tTup, tLst, tSl, tPart, tNoPart, rI, rI0, rU, rEq, rNe, scal_ii, scal_ss, scal_bb, scal_nn, scal_is, scal_si, rIxS, S_len, S_cps, S_inj, L2.start, List.map_cons, List.map_nil, List.cons_append, List.nil_append, List.append_nil, List.getElem?_cons_zero, List.getElem?_cons_succ, List.set_cons_zero, List.set_cons_succ, List.length_cons, List.length_nil, Nat.reduceAdd, Nat.reduceSub, List.replicate_succ, List.replicate_zero, Option.some.injEq, V.int.injEq, V.str.injEq, V.bl.injEq, V.ref.injEq, List.cons.injEq, and_true, true_and, exists_eq_left, exists_eq_left', exists_and_left, exists_eq, exists_eq', decide_eq_true_eq, Bool.not_eq_true', decide_eq_false_iff_not, Bool.false_eq_true, if_false, if_true, reduceIte, ite_self, CMul, CPow, CDiv])
    refine isk .bl (by decide) hv ⟨_, rfl, ite2 (fun h => qb q ?_) (fun h => isk .int (by decide) hv ⟨_, rfl, ite2 (fun h2 => qb q ?_) (fun h2 => ?_)⟩)⟩
    · cases hv <;> first | rfl | (exact absurd h (by decide))
    · cases hv <;> first | rfl | (exact absurd h2 (by decide))
    · cases hv with
      | int i =>
        refine ⟨i, rfl, ite2 (fun h3 => ite2 (fun z => nomatch z) (fun _ => ⟨i, rfl, qb q ?_⟩)) (fun h3 => qb q ?_)⟩
        · show _ = (decide (lo ≤ i) && decide (i ≤ hi))
          rw [decide_eq_true h3, Bool.true_and]
        · show _ = (decide (lo ≤ i) && decide (i ≤ hi))
          rw [decide_eq_false h3, Bool.false_and]
      | non => exact absurd (by decide) h2
      | bl b => exact absurd (by decide) h
      | str x => exact absurd (by decide) h2
      | lst x => exact absurd (by decide) h2
      | tup x => exact absurd (by decide) h2
      | dct x => exact absurd (by decide) h2
/-! ### floats -/
structure Fl where
  left : Bool
  l : Int
  r : Int
  t : Int
  b : Int
def sideT (b : Bool) : List Nat := if b then [108, 101, 102, 116] else [114, 105, 103, 104, 116]
def flD (f : Fl) : D := .tup [.str (sideT f.left), .int f.l, .int f.r, .int f.t, .int f.b]
def flsD (F : List Fl) : D := .lst (F.map flD)
def lowOf (F : List Fl) (low row : Int) : Int := F.foldl (fun x f => if f.t ≤ row ∧ row < f.b ∧ f.left = true then max x f.r else x) low
def highOf (F : List Fl) (high row : Int) : Int := F.foldl (fun x f => if f.t ≤ row ∧ row < f.b ∧ f.left = false then min x f.l else x) high
theorem take_snoc {α : Type} {l : List α} {i : Nat} {x : α} (h : l[i]? = some x) : l.take (i + 1) = l.take i ++ [x] := by
  rw [List.take_add_one, h]
  rfl
theorem _root_.KB.Reps.len2 {G : Hp} {α : Type} {f : α → D} {as : List α} {xs : List V} (h : Reps G (as.map f) xs) : xs.length = as.length := by
  rw [h.length, List.length_map]
theorem fl_at {H : Hp} {F : List Fl} {xs : List V} (h : Reps H (F.map flD) xs) {i : Nat} {f : Fl} (hi : F[i]? = some f) : ∃ t, xs[i]? = some (.ref t) ∧ H t = some (.tup [.str (S (sideT f.left)), .int f.l, .int f.r, .int f.t, .int f.b]) := by
  have hlt : i < xs.length := by
    rw [h.len2]
    exact (List.getElem?_eq_some_iff.mp hi).1
  obtain ⟨d, hd, hr⟩ := h.get (List.getElem?_eq_getElem hlt)
  rw [List.getElem?_map, hi] at hd
  have hd : flD f = d := Option.some.inj hd
  subst hd
  obtain ⟨t, ys, e, ht, _, _, rfl, rfl, _, _, rfl, rfl, _, _, rfl, rfl, _, _, rfl, rfl, _, _, rfl, rfl, rfl⟩ := hr
  exact ⟨t, by rw [List.getElem?_eq_getElem hlt, e], ht⟩
def spBetween : Sp := fun vs H Q _ => ∃ a F low high row, vs = [a, .int low, .int high, .int row] ∧ Rep H (flsD F) a ∧ F.length ≤ 1000 ∧ ∀ t H', Same H H' → H t = none → H' t = some (.tup [.int (lowOf F low row), .int (highOf F high row)]) → Q (.ref t) H'
theorem okBetween (T : Top K w mg) : Ok P w K mg base CX0 1 "between" ["floats", "low", "high", "row"] spBetween := by
  have m_max := T.m_max
  have m_min := T.m_min
  obtain ⟨tL, m_LEFT⟩ := T.m_LEFT
  refine mkOk T.f_between scBetween (fun vs H Q E h => ?_) (fun f cdv A outer s H vs Q E hr h => ?_)
  · obtain ⟨_, _, _, _, _, rfl, _⟩ := h
    rfl
  · obtain ⟨v, F, low, high, row, rfl, hF, hn, q⟩ := h
    refine ⟨_, pss_cons (ps_set (i := 4) scBetween.nd rfl (Or.inl rfl) (pv 1))
  (pss_cons (ps_set (i := 5) scBetween.nd rfl (Or.inl rfl) (pv 2))
  (pss_cons (ps_for PassesOwn.never rfl (pi_list (pv 0)) (pg_tup (n := 5) rfl (pgs_cons (pg_name (i := 6) scBetween.nd rfl (Or.inl rfl)) (pgs_cons (pg_name (i := 7) scBetween.nd rfl (Or.inl rfl)) (pgs_cons (pg_name (i := 8) scBetween.nd rfl (Or.inl rfl)) (pgs_cons (pg_name (i := 9) scBetween.nd rfl (Or.inl rfl)) (pgs_cons (pg_name (i := 10) scBetween.nd rfl (Or.inl rfl)) pgs_nil))))))
  (pss_one (ps_if (pt_chain op_le op_lt (pv 9) (pv 3) (pv 10))
  (pss_one (ps_if (pt_cmpR op_eq (pv 6) (pe_glob (v := .str "left") rfl m_LEFT ⟨_, rfl⟩) (nomark _))
  (pss_one (ps_set (i := 4) scBetween.nd rfl (Or.inl rfl) (pe_callB (call_max2 rfl) (by rfl) m_max (by decide +kernel) (pa_cons (pv 4) (pa_cons (pv 8) pa_nil)))))
  (pss_one (ps_set (i := 5) scBetween.nd rfl (Or.inl rfl) (pe_callB (call_min2 rfl) (by rfl) m_min (by decide +kernel) (pa_cons (pv 5) (pa_cons (pv 7) pa_nil)))))))
  (pss_nil))))
  (pss_one (ps_ret (pe_tup (pa_cons (pv 4) (pa_cons (pv 5) pa_nil))))))), ?_⟩
    (try simp only [cx_K, cx_w, rIn, rMulS, CwR.tReplC, tM1, tBM0, rPop, rExtend, rReverse, rLenS, rEqE, rNeE, rSetL, rIntI, rIntB, tBM, rAppend, rIxL, rIxT, rCat, rSlL, rSlS, gTup, tYes, wipe, tSeq, tAsg, tIfS, tRet, tRetN, tDrop, tNext, tBreak, tCont, tNever, tAug, ipI, tPar, tPar3, gName, gCons, gNil, gSub, tVar, tC, tOp, tUn, tIf, tAndV, tOrV, tNotV, tAnd, tOr, tNot, L2.tB, tTest, tCmp, tChain, tCB, tCons, tNil, tCall, tTup, tLst, tSl, tPart, tNoPart, rI, rI0, rU, rEq, rNe, scal_ii, scal_ss, scal_bb, scal_nn, scal_is, scal_si, rIxS, S_len, S_cps, S_inj, L2.start, List.map_cons, List.map_nil, List.cons_append, List.nil_append, List.append_nil, List.getElem?_cons_zero, List.getElem?_cons_succ, List.set_cons_zero, List.set_cons_succ, List.length_cons, List.length_nil, Nat.reduceAdd, Nat.reduceSub, List.replicate_succ, List.replicate_zero, Option.some.injEq, V.int.injEq, V.str.injEq, V.bl.injEq, V.ref.injEq, List.cons.injEq, and_true, true_and, exists_eq_left, exists_eq_left', exists_and_left, exists_eq, exists_eq', decide_eq_true_eq, Bool.not_eq_true', decide_eq_false_iff_not, Bool.false_eq_true, if_false, if_true, reduceIte, ite_self, CMul, CPow, CDiv])
    obtain ⟨a, xs, rfl, ha, hR⟩ := hF
    have hln := hR.len2
    refine ⟨_, rfl, a, rfl, ⟨_, SqL.of ha⟩, for_list (xs := xs) (fun i σ H1 => H1 = H ∧ ∃ e6 e7 e8 e9 e10, σ = [some (.ref a), some (.int low), some (.int high), some (.int row), some (.int (lowOf (F.take i) low row)), some (.int (highOf (F.take i) high row)), e6, e7, e8, e9, e10]) ⟨rfl, _, _, _, _, _, rfl⟩ (fun i σ H1 _ hP => by rw [hP.1]; exact SqL.of ha) (fun i x σ H1 hx hP => ?_) (fun σ H1 hP => ?_)⟩
    · obtain ⟨rfl, e6, e7, e8, e9, e10, rfl⟩ := hP
      have hi : i < F.length := by
        have := (List.getElem?_eq_some_iff.mp hx).1
        omega
      have hf : F[i]? = some F[i] := List.getElem?_eq_getElem hi
      obtain ⟨t, e, et⟩ := fl_at hR hf
      rw [hx] at e
      have e := Option.some.inj e
      subst e
      have hl : lowOf (F.take (i + 1)) low row = if F[i].t ≤ row ∧ row < F[i].b ∧ F[i].left = true then max (lowOf (F.take i) low row) F[i].r else lowOf (F.take i) low row := by
        unfold lowOf
        rw [take_snoc hf, List.foldl_append]
        rfl
      have hh : highOf (F.take (i + 1)) high row = if F[i].t ≤ row ∧ row < F[i].b ∧ F[i].left = false then min (highOf (F.take i) high row) F[i].l else highOf (F.take i) high row := by
        unfold highOf
        rw [take_snoc hf, List.foldl_append]
        rfl
      refine ⟨t, _, rfl, SqT.of et, rfl, ?_⟩
      (try simp only [cx_K, cx_w, rIn, rMulS, CwR.tReplC, tM1, tBM0, rPop, rExtend, rReverse, rLenS, rEqE, rNeE, rSetL, rIntI, rIntB, tBM, rAppend, rIxL, rIxT, rCat, rSlL, rSlS, gTup, tYes, wipe, tSeq, tAsg, tIfS, tRet, tRetN, tDrop, tNext, tBreak, tCont, tNever, tAug, ipI, tPar, tPar3, gName, gCons, gNil, gSub, tVar, tC, tOp, tUn, tIf, tAndV, tOrV, tNotV, tAnd, tOr, tNot, L2.tB, tTest, tCmp, tChain, tCB, tCons, tNil, tCall, tTup, tLst, tSl, tPart, tNoPart, rI, rI0, rU, rEq, rNe, scal_ii, scal_ss, scal_bb, scal_nn, scal_is, scal_si, rIxS, S_len, S_cps, S_inj, L2.start, List.map_cons, List.map_nil, List.cons_append, List.nil_append, List.append_nil, List.getElem?_cons_zero, List.getElem?_cons_succ, List.set_cons_zero, List.set_cons_succ, List.length_cons, List.length_nil, Nat.reduceAdd, Nat.reduceSub, List.replicate_succ, List.replicate_zero, Option.some.injEq, V.int.injEq, V.str.injEq, V.bl.injEq, V.ref.injEq, List.cons.injEq, and_true, true_and, exists_eq_left, exists_eq_left', exists_and_left, exists_eq, exists_eq', decide_eq_true_eq, Bool.not_eq_true', decide_eq_false_iff_not, Bool.false_eq_true, if_false, if_true, reduceIte, ite_self, CMul, CPow, CDiv])
      refine ⟨_, _, ⟨rfl, rfl⟩, _, _, rfl, _, _, rfl, _, _, rfl, _, _, rfl, rfl, F[i].t, rfl, ite2 (fun h1 => ⟨_, rfl, ite2 (fun h2 => ⟨rfl, ?_⟩) (fun h2 => ⟨?_, ?_⟩)⟩) (fun h1 => ⟨?_, ?_⟩)⟩
      · cases hs : F[i].left with
        | true =>
          refine ite2 (fun _ => ⟨_, _, ⟨rfl, rfl⟩, ?_, ?_⟩) (fun h => absurd rfl h)
          · rw [if_pos ⟨h1, h2, hs⟩] at hl
            rw [hl, Int.max_def]
            repeat' split
            all_goals omega
          · rw [hh, if_neg (fun z => by rw [hs] at z; exact absurd z.2.2 (by decide))]
        | false =>
          refine ite2 (fun h => absurd h (by decide +kernel)) (fun _ => ⟨_, _, ⟨rfl, rfl⟩, ?_, ?_⟩)
          · rw [hl, if_neg (fun z => by rw [hs] at z; exact absurd z.2.2 (by decide))]
          · rw [if_pos ⟨h1, h2, hs⟩] at hh
            rw [hh, Int.min_def]
            repeat' split
            all_goals omega
      · rw [hl, if_neg (fun z => h2 z.2.1)]
      · rw [hh, if_neg (fun z => h2 z.2.1)]
      · rw [hl, if_neg (fun z => h1 z.1)]
      · rw [hh, if_neg (fun z => h1 z.1)]
    · obtain ⟨rfl, e6, e7, e8, e9, e10, rfl⟩ := hP
      rw [hln, List.take_length]
      (try simp only [cx_K, cx_w, rIn, rMulS, CwR.tReplC, tM1, tBM0, rPop, rExtend, rReverse, rLenS, rEqE, rNeE, rSetL, rIntI, rIntB, tBM, rAppend, rIxL, rIxT, rCat, rSlL, rSlS, gTup, tYes, wipe, tSeq, tAsg, tIfS, tRet, tRetN, tDrop, tNext, tBreak, tCont, tNever, tAug, ipI, tPar, tPar3, gName, gCons, gNil, gSub, tVar, tC, tOp, tUn, tIf, tAndV, tOrV, tNotV, tAnd, tOr, tNot, L2.tB, tTest, tCmp, tChain, tCB, tCons, tNil, tCall, tTup, tLst, tSl, tPart, tNoPart, rI, rI0, rU, rEq, rNe, scal_ii, scal_ss, scal_bb, scal_nn, scal_is, scal_si, rIxS, S_len, S_cps, S_inj, L2.start, List.map_cons, List.map_nil, List.cons_append, List.nil_append, List.append_nil, List.getElem?_cons_zero, List.getElem?_cons_succ, List.set_cons_zero, List.set_cons_succ, List.length_cons, List.length_nil, Nat.reduceAdd, Nat.reduceSub, List.replicate_succ, List.replicate_zero, Option.some.injEq, V.int.injEq, V.str.injEq, V.bl.injEq, V.ref.injEq, List.cons.injEq, and_true, true_and, exists_eq_left, exists_eq_left', exists_and_left, exists_eq, exists_eq', decide_eq_true_eq, Bool.not_eq_true', decide_eq_false_iff_not, Bool.false_eq_true, if_false, if_true, reduceIte, ite_self, CMul, CPow, CDiv])
      exact ⟨by decide, fun t ht => q t _ (Same.new ht) ht upd_same⟩
end
end K92


namespace K92
open PySem PySem.Spec PyProof.Rows L2 KB
section
variable {P : Program} {w : World} {K : PySem.W.Frag} {mg : Str → Option Value} {base : Heap}
def goesIn (F : List Fl) (low high row wide : Int) : Bool := decide (wide ≤ highOf F high row - lowOf F low row) || (decide (lowOf F low row = low) && decide (highOf F high row = high))
def spGoes : Sp := fun vs H Q _ => ∃ a F low high row wide, vs = [a, .int low, .int high, .int row, .int wide] ∧ Rep H (flsD F) a ∧ F.length ≤ 1000 ∧ ∀ H', Same H H' → Q (.bl (goesIn F low high row wide)) H'
theorem okGoes (T : Top K w mg) : Ok P w K mg base CX0 2 "goes_in" ["floats", "low", "high", "row", "wide"] spGoes := by
  have GBetween : Ok P w K mg base CX0 1 "between" ["floats", "low", "high", "row"] spBetween := okBetween T
  refine mkOk T.f_goes_in scGoesIn (fun vs H Q E h => ?_) (fun f cdv A outer s H vs Q E hr h => ?_)
  · obtain ⟨_, _, _, _, _, _, rfl, _⟩ := h
    rfl
  · obtain ⟨v, F, low, high, row, wide, rfl, hF, hn, q⟩ := h
    refine ⟨_, pss_cons (ps_asg (pcall GBetween (hr.mono (by decide)) (by rfl) pass0 (pa_cons (pv 0) (pa_cons (pv 1) (pa_cons (pv 2) (pa_cons (pv 3) pa_nil))))) (pg_tup (n := 2) rfl (pgs_cons (pg_name (i := 5) scGoesIn.nd rfl (Or.inl rfl)) (pgs_cons (pg_name (i := 6) scGoesIn.nd rfl (Or.inl rfl)) pgs_nil))))
  (pss_one (ps_ret (pe_or (pe_cmpR op_ge (pe_op op_sub (pv 6) (pv 5)) (pv 4) (nomark _)) (pe_one (pe_cmpR (op_eqD hr.units) (pe_tup (pa_cons (pv 5) (pa_cons (pv 6) pa_nil))) (pe_tup (pa_cons (pv 1) (pa_cons (pv 2) pa_nil))) (nomark _)))))), ?_⟩
    (try simp only [cx_K, cx_w, rIn, rMulS, CwR.tReplC, tM1, tBM0, rPop, rExtend, rReverse, rLenS, rEqE, rNeE, rSetL, rIntI, rIntB, tBM, rAppend, rIxL, rIxT, rCat, rSlL, rSlS, gTup, tYes, wipe, tSeq, tAsg, tIfS, tRet, tRetN, tDrop, tNext, tBreak, tCont, tNever, tAug, ipI, tPar, tPar3, gName, gCons, gNil, gSub, tVar, tC, tOp, tUn, tIf, tAndV, tOrV, tNotV, tAnd, tOr, tNot, L2.tB, tTest, tCmp, tChain, tCB, tCons, tNil, tCall, tTup, tLst, tSl, tPart, tNoPart, rI, rI0, rU, rEq, rNe, scal_ii, scal_ss, scal_bb, scal_nn, scal_is, scal_si, rIxS, S_len, S_cps, S_inj, L2.start, List.map_cons, List.map_nil, List.cons_append, List.nil_append, List.append_nil, List.getElem?_cons_zero, List.getElem?_cons_succ, List.set_cons_zero, List.set_cons_succ, List.length_cons, List.length_nil, Nat.reduceAdd, Nat.reduceSub, List.replicate_succ, List.replicate_zero, Option.some.injEq, V.int.injEq, V.str.injEq, V.bl.injEq, V.ref.injEq, List.cons.injEq, and_true, true_and, exists_eq_left, exists_eq_left', exists_and_left, exists_eq, exists_eq', decide_eq_true_eq, Bool.not_eq_true', decide_eq_false_iff_not, Bool.false_eq_true, if_false, if_true, reduceIte, ite_self, CMul, CPow, CDiv])
    refine ⟨v, F, low, high, row, rfl, hF, hn, fun t H1 s1 ht et => ⟨t, rfl, _, SqT.of et, rfl, _, _, rfl, _, _, rfl, rfl, _, rfl, _, rfl, ite2 (fun h => qb (q H1 s1) ?_) (fun h => ⟨by decide, fun p hp => ⟨by decide, fun p2 hp2 => ?_⟩⟩)⟩⟩
    · unfold goesIn
      rw [decide_eq_true h]
      rfl
    · have e1 : upd (upd H1 p (.tup [.int (lowOf F low row), .int (highOf F high row)])) p2 (.tup [.int low, .int high]) p = some (.tup [.int (lowOf F low row), .int (highOf F high row)]) := (Same.new hp2) _ _ upd_same
      refine ⟨_, _, .tup (SqT.of e1) (.cons (.int _) (.cons (.int _) .nil)), .tup (SqT.of upd_same) (.cons (.int _) (.cons (.int _) .nil)), rfl, rfl, qb (q _ ((s1.trans (Same.new hp)).trans (Same.new hp2))) ?_⟩
      unfold goesIn
      rw [decide_eq_false h, Bool.false_or]
      show ((lowOf F low row == low) && ((highOf F high row == high) && true)) = _
      rw [Bool.and_true]
      rfl
/-- the first of the rows that goes; start, if none does -/
def firstOf (F : List Fl) (low high wide start : Int) : List Int → Int
  | [] => start
  | r :: rs => if goesIn F low high r wide = true then r else firstOf F low high wide start rs
def spFirst : Sp := fun vs H Q _ => ∃ a F low high start wide, vs = [a, .int low, .int high, .int start, .int wide] ∧ Rep H (flsD F) a ∧ F.length ≤ 1000 ∧
  ∀ ns H', ns.Perm ((F.map (·.b)).filter fun b => decide (start < b)) → ns.Pairwise (· ≤ ·) → Same H H' → Q (.int (firstOf F low high wide start (start :: ns))) H'
theorem okFirst (T : Top K w mg) : Ok P w K mg base CX0 3 "first_row_beside" ["floats", "low", "high", "start", "wide"] spFirst := by
  have GGoesIn : Ok P w K mg base CX0 2 "goes_in" ["floats", "low", "high", "row", "wide"] spGoes := okGoes T
  have m_sorted := T.m_sorted
  refine mkOk T.f_first_row_beside scFirstRowBeside (fun vs H Q E h => ?_) (fun f cdv A outer s H vs Q E hr h => ?_)
  · obtain ⟨_, _, _, _, _, _, rfl, _⟩ := h
    rfl
  · obtain ⟨v, F, low, high, start, wide, rfl, hF, hn, q⟩ := h
    refine ⟨_, pss_cons (ps_for PassesOwn.never rfl (pi_list (pe_op op_cat (pe_lst (pa_cons (pv 3) pa_nil)) (pe_callB cr_sortedI (by rfl) m_sorted (by decide +kernel) (pa_cons (pe_lc (own := [("one", 6)]) rfl scFirstRowBeside.nd (pi_list (pv 0)) (blkOk_by (own := [("one", 6)]) (N := ["floats", "low", "high", "start", "wide", "row", "one"]) (sc := defScope sFirstRowBeside) (by decide +kernel)) (fun _ _ _ _ _ => pg_name (i := 6) scFirstRowBeside.nd rfl (Or.inl rfl)) (fun _ _ _ _ _ => pts_one (pt_cmpR op_gt (pe_ix (ix_tupK (K := K) rfl) (pv 6) (pe_int) (fun _ _ => rfl)) (pv 3) (nomark _))) (fun _ _ _ _ _ => pe_ix (ix_tupK (K := K) rfl) (pv 6) (pe_int) (fun _ _ => rfl))) pa_nil)))) (pg_name (i := 5) scFirstRowBeside.nd rfl (Or.inl rfl))
  (pss_one (ps_if (pt_val (pcall GGoesIn (hr.mono (by decide)) (by rfl) pass0 (pa_cons (pv 0) (pa_cons (pv 1) (pa_cons (pv 2) (pa_cons (pv 5) (pa_cons (pv 4) pa_nil)))))))
  (pss_one (ps_ret (pv 5)))
  (pss_nil))))
  (pss_one (ps_ret (pv 3))), ?_⟩
    (try simp only [cx_K, cx_w, rIn, rMulS, CwR.tReplC, tM1, tBM0, rPop, rExtend, rReverse, rLenS, rEqE, rNeE, rSetL, rIntI, rIntB, tBM, rAppend, rIxL, rIxT, rCat, rSlL, rSlS, gTup, tYes, wipe, tSeq, tAsg, tIfS, tRet, tRetN, tDrop, tNext, tBreak, tCont, tNever, tAug, ipI, tPar, tPar3, gName, gCons, gNil, gSub, tVar, tC, tOp, tUn, tIf, tAndV, tOrV, tNotV, tAnd, tOr, tNot, L2.tB, tTest, tCmp, tChain, tCB, tCons, tNil, tCall, tTup, tLst, tSl, tPart, tNoPart, rI, rI0, rU, rEq, rNe, scal_ii, scal_ss, scal_bb, scal_nn, scal_is, scal_si, rIxS, S_len, S_cps, S_inj, L2.start, List.map_cons, List.map_nil, List.cons_append, List.nil_append, List.append_nil, List.getElem?_cons_zero, List.getElem?_cons_succ, List.set_cons_zero, List.set_cons_succ, List.length_cons, List.length_nil, Nat.reduceAdd, Nat.reduceSub, List.replicate_succ, List.replicate_zero, Option.some.injEq, V.int.injEq, V.str.injEq, V.bl.injEq, V.ref.injEq, List.cons.injEq, and_true, true_and, exists_eq_left, exists_eq_left', exists_and_left, exists_eq, exists_eq', decide_eq_true_eq, Bool.not_eq_true', decide_eq_false_iff_not, Bool.false_eq_true, if_false, if_true, reduceIte, ite_self, CMul, CPow, CDiv])
    obtain ⟨a, xs, rfl, ha, hR⟩ := hF
    have hln := hR.len2
    refine ⟨.int start, rfl, by simp [sizeLine_eq], fun p1 hp1 => ?_⟩
    have s1 : Same H (upd H p1 (.lst [.int start])) := Same.new hp1
    refine ⟨.ref a, rfl, a, rfl, ⟨_, SqL.of (s1 _ _ ha)⟩, fun c hc => lc_list (xs := xs) (fun i H2 => Same (upd H p1 (.lst [.int start])) H2 ∧ H2 c = some (.lst ((((F.take i).map (·.b)).filter fun b => decide (start < b)).map V.int))) ⟨Same.new hc, upd_same⟩ (fun i H2 _ h => SqL.of (h.1 _ _ (s1 _ _ ha))) (fun i x H2 hx hP => ?_) (fun H2 hP => ?_)⟩
    · obtain ⟨s2, e2⟩ := hP
      have hi : i < F.length := by
        have := (List.getElem?_eq_some_iff.mp hx).1
        omega
      have hf : F[i]? = some F[i] := List.getElem?_eq_getElem hi
      obtain ⟨t, e, et⟩ := fl_at hR hf
      rw [hx] at e
      have e := Option.some.inj e
      subst e
      have et2 := s2 _ _ (s1 _ _ et)
      have hle : (((F.take i).map (·.b)).filter fun b => decide (start < b)).length ≤ i := by
        refine Nat.le_trans (List.length_filter_le _ _) ?_
        rw [List.length_map, List.length_take]
        omega
      refine ⟨rfl, ?_⟩
      (try simp only [cx_K, cx_w, rIn, rMulS, CwR.tReplC, tM1, tBM0, rPop, rExtend, rReverse, rLenS, rEqE, rNeE, rSetL, rIntI, rIntB, tBM, rAppend, rIxL, rIxT, rCat, rSlL, rSlS, gTup, tYes, wipe, tSeq, tAsg, tIfS, tRet, tRetN, tDrop, tNext, tBreak, tCont, tNever, tAug, ipI, tPar, tPar3, gName, gCons, gNil, gSub, tVar, tC, tOp, tUn, tIf, tAndV, tOrV, tNotV, tAnd, tOr, tNot, L2.tB, tTest, tCmp, tChain, tCB, tCons, tNil, tCall, tTup, tLst, tSl, tPart, tNoPart, rI, rI0, rU, rEq, rNe, scal_ii, scal_ss, scal_bb, scal_nn, scal_is, scal_si, rIxS, S_len, S_cps, S_inj, L2.start, List.map_cons, List.map_nil, List.cons_append, List.nil_append, List.append_nil, List.getElem?_cons_zero, List.getElem?_cons_succ, List.set_cons_zero, List.set_cons_succ, List.length_cons, List.length_nil, Nat.reduceAdd, Nat.reduceSub, List.replicate_succ, List.replicate_zero, Option.some.injEq, V.int.injEq, V.str.injEq, V.bl.injEq, V.ref.injEq, List.cons.injEq, and_true, true_and, exists_eq_left, exists_eq_left', exists_and_left, exists_eq, exists_eq', decide_eq_true_eq, Bool.not_eq_true', decide_eq_false_iff_not, Bool.false_eq_true, if_false, if_true, reduceIte, ite_self, CMul, CPow, CDiv])
      refine ⟨_, SqT.of et2, _, at_nat (i := 4) rfl, F[i].b, rfl, ?_⟩
      have hnext : ((F.take (i + 1)).map (·.b)).filter (fun b => decide (start < b)) = ((F.take i).map (·.b)).filter (fun b => decide (start < b)) ++ [F[i].b].filter (fun b => decide (start < b)) := by
        rw [take_snoc hf, List.map_append, List.filter_append]
        rfl
      rw [hnext]
      refine ite2 (fun h => ⟨_, SqT.of et2, _, at_nat (i := 4) rfl, _, e2, ?_, s2.mut hc, ?_⟩) (fun h => ⟨s2, ?_⟩)
      · rw [List.length_map]
        exact sz5' (by omega)
      · rw [upd_same, List.filter_cons, if_pos (decide_eq_true h), List.map_append]
        rfl
      · rw [List.filter_cons, if_neg (by simpa using h), e2]
        simp
    · obtain ⟨s2, e2⟩ := hP
      rw [hln, List.take_length] at e2
      refine ⟨c, _, rfl, SqL.of e2, fun ns p2 hperm hpw hp2 => ?_⟩
      have hnl : ns.length ≤ 1000 := by
        rw [hperm.length_eq]
        refine Nat.le_trans (List.length_filter_le _ _) ?_
        rw [List.length_map]
        exact hn
      have s3 := s2.trans (Same.new (o := .lst (ns.map V.int)) hp2)
      refine ⟨p1, p2, [.int start], ns.map V.int, rfl, rfl, s3 _ _ upd_same, upd_same, ?_, fun p3 hp3 => ?_⟩
      · rw [List.length_map, List.length_singleton]
        exact sz5 (by omega)
      have s4 := (s1.trans s3).trans (Same.new (o := .lst ([V.int start] ++ ns.map V.int)) hp3)
      have hlist : ([V.int start] ++ ns.map V.int) = (start :: ns).map V.int := rfl
      refine ⟨p3, rfl, ⟨_, SqL.of upd_same⟩, for_list (xs := (start :: ns).map V.int) (fun i σ H5 => ∃ e5 e6, σ = [some (.ref a), some (.int low), some (.int high), some (.int start), some (.int wide), e5, e6] ∧ Same H H5 ∧ H5 p3 = some (.lst ((start :: ns).map V.int)) ∧ firstOf F low high wide start ((start :: ns).drop i) = firstOf F low high wide start (start :: ns)) ⟨_, _, rfl, s4, upd_same, rfl⟩ (fun i σ H5 _ h => ?_) (fun i x σ H5 hx h => ?_) (fun σ H5 h => ?_)⟩
      · obtain ⟨_, _, _, _, e, _⟩ := h
        exact SqL.of e
      · obtain ⟨e5, e6, rfl, s5, e5', hfo⟩ := h
        rw [List.getElem?_map] at hx
        obtain ⟨r, hr', rfl⟩ := Option.map_eq_some_iff.mp hx
        have hi : i < (start :: ns).length := (List.getElem?_eq_some_iff.mp hr').1
        have hre : (start :: ns)[i] = r := (List.getElem?_eq_some_iff.mp hr').2
        rw [List.drop_eq_getElem_cons hi, hre, firstOf] at hfo
        (try simp only [cx_K, cx_w, rIn, rMulS, CwR.tReplC, tM1, tBM0, rPop, rExtend, rReverse, rLenS, rEqE, rNeE, rSetL, rIntI, rIntB, tBM, rAppend, rIxL, rIxT, rCat, rSlL, rSlS, gTup, tYes, wipe, tSeq, tAsg, tIfS, tRet, tRetN, tDrop, tNext, tBreak, tCont, tNever, tAug, ipI, tPar, tPar3, gName, gCons, gNil, gSub, tVar, tC, tOp, tUn, tIf, tAndV, tOrV, tNotV, tAnd, tOr, tNot, L2.tB, tTest, tCmp, tChain, tCB, tCons, tNil, tCall, tTup, tLst, tSl, tPart, tNoPart, rI, rI0, rU, rEq, rNe, scal_ii, scal_ss, scal_bb, scal_nn, scal_is, scal_si, rIxS, S_len, S_cps, S_inj, L2.start, List.map_cons, List.map_nil, List.cons_append, List.nil_append, List.append_nil, List.getElem?_cons_zero, List.getElem?_cons_succ, List.set_cons_zero, List.set_cons_succ, List.length_cons, List.length_nil, Nat.reduceAdd, Nat.reduceSub, List.replicate_succ, List.replicate_zero, Option.some.injEq, V.int.injEq, V.str.injEq, V.bl.injEq, V.ref.injEq, List.cons.injEq, and_true, true_and, exists_eq_left, exists_eq_left', exists_and_left, exists_eq, exists_eq', decide_eq_true_eq, Bool.not_eq_true', decide_eq_false_iff_not, Bool.false_eq_true, if_false, if_true, reduceIte, ite_self, CMul, CPow, CDiv])
        refine ⟨.ref a, F, low, high, r, wide, rfl, Rep.mono s5 ⟨a, xs, rfl, ha, hR⟩, hn, fun H6 s6 => ⟨_, rfl, ite2 (fun hg => ?_) (fun hg => ?_)⟩⟩
        · rw [if_pos hg] at hfo
          rw [hfo]
          exact q ns H6 hperm hpw (s5.trans s6)
        · rw [if_neg hg] at hfo
          exact ⟨_, _, ⟨rfl, rfl⟩, s5.trans s6, s6 _ _ e5', hfo⟩
      · obtain ⟨e5, e6, rfl, s5, e5', hfo⟩ := h
        rw [List.length_map, List.drop_length] at hfo
        (try simp only [cx_K, cx_w, rIn, rMulS, CwR.tReplC, tM1, tBM0, rPop, rExtend, rReverse, rLenS, rEqE, rNeE, rSetL, rIntI, rIntB, tBM, rAppend, rIxL, rIxT, rCat, rSlL, rSlS, gTup, tYes, wipe, tSeq, tAsg, tIfS, tRet, tRetN, tDrop, tNext, tBreak, tCont, tNever, tAug, ipI, tPar, tPar3, gName, gCons, gNil, gSub, tVar, tC, tOp, tUn, tIf, tAndV, tOrV, tNotV, tAnd, tOr, tNot, L2.tB, tTest, tCmp, tChain, tCB, tCons, tNil, tCall, tTup, tLst, tSl, tPart, tNoPart, rI, rI0, rU, rEq, rNe, scal_ii, scal_ss, scal_bb, scal_nn, scal_is, scal_si, rIxS, S_len, S_cps, S_inj, L2.start, List.map_cons, List.map_nil, List.cons_append, List.nil_append, List.append_nil, List.getElem?_cons_zero, List.getElem?_cons_succ, List.set_cons_zero, List.set_cons_succ, List.length_cons, List.length_nil, Nat.reduceAdd, Nat.reduceSub, List.replicate_succ, List.replicate_zero, Option.some.injEq, V.int.injEq, V.str.injEq, V.bl.injEq, V.ref.injEq, List.cons.injEq, and_true, true_and, exists_eq_left, exists_eq_left', exists_and_left, exists_eq, exists_eq', decide_eq_true_eq, Bool.not_eq_true', decide_eq_false_iff_not, Bool.false_eq_true, if_false, if_true, reduceIte, ite_self, CMul, CPow, CDiv])
        have hfo : start = firstOf F low high wide start (start :: ns) := hfo
        have := q ns H5 hperm hpw s5
        rw [← hfo] at this
        exact this
end
end K92


namespace K92
open PySem PySem.Spec PyProof.Rows L2 KB
section
variable {P : Program} {w : World} {K : PySem.W.Frag} {mg : Str → Option Value} {base : Heap}
def startOf (F : List Fl) (c : Int) : Int := match F.getLast? with
  | none => c
  | some f => max c f.t
/-- the sorted bottoms behind st -/
def Bots (F : List Fl) (st : Int) (ns : List Int) : Prop := ns.Perm ((F.map (·.b)).filter fun b => decide (st < b)) ∧ ns.Pairwise (· ≤ ·)
def rowOf (F : List Fl) (low high c wide : Int) (ns : List Int) : Int := firstOf F low high wide (startOf F c) (startOf F c :: ns)
def atOf (F : List Fl) (low high wide : Int) (left : Bool) (row : Int) : Int := if left then lowOf F low row else highOf F high row - wide
theorem reps_drop {G : Hp} : ∀ {ds : List D} {xs : List V} (_ : Reps G ds xs) (k : Nat), Reps G (ds.drop k) (xs.drop k)
  | _, _, h, 0 => h
  | [], _, e, k + 1 => by
    have e : _ = [] := e
    subst e
    rfl
  | _ :: _, _, ⟨x, r, e, _, e2⟩, k + 1 => by
    subst e
    exact reps_drop e2 k
theorem cut_last {xs : List V} : cutV xs (some (-1)) none = xs.drop (xs.length - 1) := by
  unfold cutV
  have h : HT.sIx xs.length 0 (some (-1)) = xs.length - 1 := by
    unfold HT.sIx
    simp
    omega
  rw [h]
  show List.take (xs.length - (xs.length - 1)) _ = _
  rw [List.take_of_length_le]
  rw [List.length_drop]
  exact Nat.le_refl _
theorem last_of {F G : List Fl} (h : F.drop (F.length - 1) = G) : F.getLast? = G.head? := by
  rw [← h, List.head?_drop, List.getLast?_eq_getElem?]
def spPlace : Sp := fun vs H Q _ => ∃ a F low high c wide left, vs = [a, .int low, .int high, .int c, .int wide, .str (S (sideT left))] ∧ Rep H (flsD F) a ∧ F.length ≤ 1000 ∧
  ∀ ns t H', Bots F (startOf F c) ns → Same H H' → H t = none → H' t = some (.tup [.int (atOf F low high wide left (rowOf F low high c wide ns)), .int (rowOf F low high c wide ns)]) → Q (.ref t) H'
theorem okPlace (T : Top K w mg) : Ok P w K mg base CX0 4 "float_place" ["floats", "low", "high", "start", "wide", "side"] spPlace := by
  have GFirstRowBeside : Ok P w K mg base CX0 3 "first_row_beside" ["floats", "low", "high", "start", "wide"] spFirst := okFirst T
  have GBetween : Ok P w K mg base CX0 1 "between" ["floats", "low", "high", "row"] spBetween := okBetween T
  have m_max := T.m_max
  obtain ⟨tL, m_LEFT⟩ := T.m_LEFT
  refine mkOk T.f_float_place scFloatPlace (fun vs H Q E h => ?_) (fun f cdv A outer s H vs Q E hr h => ?_)
  · obtain ⟨_, _, _, _, _, _, _, rfl, _⟩ := h
    rfl
  · obtain ⟨v, F, low, high, c, wide, left, rfl, hF, hn, q⟩ := h
    refine ⟨_, pss_cons (ps_set (i := 6) scFloatPlace.nd rfl (Or.inl rfl) (pcall GFirstRowBeside (hr.mono (by decide)) (by rfl) pass0 (pa_cons (pv 0) (pa_cons (pv 1) (pa_cons (pv 2) (pa_cons (pe_callB (cr_max rfl) (by rfl) m_max (by decide +kernel) (pa_cons (pe_op op_cat (pe_lst (pa_cons (pv 3) pa_nil)) (pe_lc (own := [("one", 9)]) rfl scFloatPlace.nd (pi_list (pe_slice sl_list (pv 0) (po_some (pe_un un_neg (pe_int))) po_none)) (blkOk_by (own := [("one", 9)]) (N := ["floats", "low", "high", "start", "wide", "side", "row", "left", "right", "one"]) (sc := defScope sFloatPlace) (by decide +kernel)) (fun _ _ _ _ _ => pg_name (i := 9) scFloatPlace.nd rfl (Or.inl rfl)) (fun _ _ _ _ _ => pts_nil) (fun _ _ _ _ _ => pe_ix (ix_tupK (K := K) rfl) (pv 9) (pe_int) (fun _ _ => rfl)))) pa_nil)) (pa_cons (pv 4) pa_nil)))))))
  (pss_cons (ps_asg (pcall GBetween (hr.mono (by decide)) (by rfl) pass0 (pa_cons (pv 0) (pa_cons (pv 1) (pa_cons (pv 2) (pa_cons (pv 6) pa_nil))))) (pg_tup (n := 2) rfl (pgs_cons (pg_name (i := 7) scFloatPlace.nd rfl (Or.inl rfl)) (pgs_cons (pg_name (i := 8) scFloatPlace.nd rfl (Or.inl rfl)) pgs_nil))))
  (pss_one (ps_ret (pe_tup (pa_cons (pe_ifExp (pt_cmpR op_eq (pv 5) (pe_glob (v := .str "left") rfl m_LEFT ⟨_, rfl⟩) (nomark _)) (pv 7) (pe_op op_sub (pv 8) (pv 4))) (pa_cons (pv 6) pa_nil)))))), ?_⟩
    (try simp only [cx_K, cx_w, rIn, rMulS, CwR.tReplC, tM1, tBM0, rPop, rExtend, rReverse, rLenS, rEqE, rNeE, rSetL, rIntI, rIntB, tBM, rAppend, rIxL, rIxT, rCat, rSlL, rSlS, gTup, tYes, wipe, tSeq, tAsg, tIfS, tRet, tRetN, tDrop, tNext, tBreak, tCont, tNever, tAug, ipI, tPar, tPar3, gName, gCons, gNil, gSub, tVar, tC, tOp, tUn, tIf, tAndV, tOrV, tNotV, tAnd, tOr, tNot, L2.tB, tTest, tCmp, tChain, tCB, tCons, tNil, tCall, tTup, tLst, tSl, tPart, tNoPart, rI, rI0, rU, rEq, rNe, scal_ii, scal_ss, scal_bb, scal_nn, scal_is, scal_si, rIxS, S_len, S_cps, S_inj, L2.start, List.map_cons, List.map_nil, List.cons_append, List.nil_append, List.append_nil, List.getElem?_cons_zero, List.getElem?_cons_succ, List.set_cons_zero, List.set_cons_succ, List.length_cons, List.length_nil, Nat.reduceAdd, Nat.reduceSub, List.replicate_succ, List.replicate_zero, Option.some.injEq, V.int.injEq, V.str.injEq, V.bl.injEq, V.ref.injEq, List.cons.injEq, and_true, true_and, exists_eq_left, exists_eq_left', exists_and_left, exists_eq, exists_eq', decide_eq_true_eq, Bool.not_eq_true', decide_eq_false_iff_not, Bool.false_eq_true, if_false, if_true, reduceIte, ite_self, CMul, CPow, CDiv])
    obtain ⟨a, xs, rfl, ha, hR⟩ := hF
    have hln := hR.len2
    refine ⟨by decide, fun p hp => ?_⟩
    have s1 : Same H (upd H p (.lst [.int c])) := Same.new hp
    refine ⟨.ref a, rfl, 1, rfl, -1, rfl, a, xs, rfl, SqL.of (s1 _ _ ha), fun p2 hp2 => ?_⟩
    rw [cut_last]
    have s2 := s1.trans (Same.new (o := .lst (xs.drop (xs.length - 1))) hp2)
    have hRd : Reps H ((F.drop (F.length - 1)).map flD) (xs.drop (xs.length - 1)) := by
      rw [hln, List.map_drop]
      exact reps_drop hR _
    have hGl := hRd.len2
    have hG1 : (F.drop (F.length - 1)).length ≤ 1 := by
      rw [List.length_drop]
      omega
    generalize hGe : F.drop (F.length - 1) = G at hRd hGl hG1
    generalize xs.drop (xs.length - 1) = ys at hRd hGl s2 hp2
    refine ⟨p2, rfl, ⟨_, SqL.of upd_same⟩, fun d hd => lc_list (xs := ys) (fun i H3 => Same (upd (upd H p (.lst [.int c])) p2 (.lst ys)) H3 ∧ H3 d = some (.lst (((G.take i).map (·.t)).map V.int))) ⟨Same.new hd, upd_same⟩ (fun i H3 _ h => SqL.of (h.1 _ _ upd_same)) (fun i x H3 hx hP => ?_) (fun H3 hP => ?_)⟩
    · obtain ⟨s3, e3⟩ := hP
      have hi : i < G.length := by
        have := (List.getElem?_eq_some_iff.mp hx).1
        omega
      have hf : G[i]? = some G[i] := List.getElem?_eq_getElem hi
      obtain ⟨t, e, et⟩ := fl_at hRd hf
      rw [hx] at e
      have e := Option.some.inj e
      subst e
      refine ⟨rfl, ?_⟩
      (try simp only [cx_K, cx_w, rIn, rMulS, CwR.tReplC, tM1, tBM0, rPop, rExtend, rReverse, rLenS, rEqE, rNeE, rSetL, rIntI, rIntB, tBM, rAppend, rIxL, rIxT, rCat, rSlL, rSlS, gTup, tYes, wipe, tSeq, tAsg, tIfS, tRet, tRetN, tDrop, tNext, tBreak, tCont, tNever, tAug, ipI, tPar, tPar3, gName, gCons, gNil, gSub, tVar, tC, tOp, tUn, tIf, tAndV, tOrV, tNotV, tAnd, tOr, tNot, L2.tB, tTest, tCmp, tChain, tCB, tCons, tNil, tCall, tTup, tLst, tSl, tPart, tNoPart, rI, rI0, rU, rEq, rNe, scal_ii, scal_ss, scal_bb, scal_nn, scal_is, scal_si, rIxS, S_len, S_cps, S_inj, L2.start, List.map_cons, List.map_nil, List.cons_append, List.nil_append, List.append_nil, List.getElem?_cons_zero, List.getElem?_cons_succ, List.set_cons_zero, List.set_cons_succ, List.length_cons, List.length_nil, Nat.reduceAdd, Nat.reduceSub, List.replicate_succ, List.replicate_zero, Option.some.injEq, V.int.injEq, V.str.injEq, V.bl.injEq, V.ref.injEq, List.cons.injEq, and_true, true_and, exists_eq_left, exists_eq_left', exists_and_left, exists_eq, exists_eq', decide_eq_true_eq, Bool.not_eq_true', decide_eq_false_iff_not, Bool.false_eq_true, if_false, if_true, reduceIte, ite_self, CMul, CPow, CDiv])
      refine ⟨_, SqT.of (s3 _ _ (s2 _ _ et)), _, at_nat (i := 3) rfl, _, e3, ?_, s3.mut hd, ?_⟩
      · rw [List.length_map, List.length_map, List.length_take]
        exact sz5' (by omega)
      · rw [upd_same, take_snoc hf, List.map_append, List.map_append]
        rfl
    · obtain ⟨s3, e3⟩ := hP
      rw [hGl, List.take_length] at e3
      have s23 := s2.trans s3
      have ep3 : H3 p = some (.lst [.int c]) := s3 _ _ ((Same.new hp2) _ _ upd_same)
      refine ⟨d, rfl, _, ep3, _, e3, ?_, fun p5 hp5 => ⟨p5, c :: G.map (·.t), rfl, SqL.of upd_same, by simp, fun m hm hmax => ?_⟩⟩
      · rw [List.length_map, List.length_map, List.length_singleton]
        exact sz5 (by omega)
      have hst : m = startOf F c := by
        unfold startOf
        rw [last_of hGe]
        cases G with
        | nil =>
          simp at hm
          exact hm
        | cons g G =>
          cases G with
          | nil =>
            simp at hm hmax
            show m = max c g.t
            rcases hm with h | h <;> rw [Int.max_def] <;> split <;> omega
          | cons _ _ => simp at hG1
      subst hst
      have s35 := s23.trans (Same.new (o := .lst ([V.int c] ++ (G.map (·.t)).map V.int)) hp5)
      have hF0 : Rep H (flsD F) (.ref a) := ⟨a, xs, rfl, ha, hR⟩
      refine ⟨.ref a, F, low, high, startOf F c, wide, rfl, hF0.mono s35, hn, fun ns H6 hperm hpw s6 => ⟨.ref a, F, low, high, _, rfl, hF0.mono (s35.trans s6), hn, fun t H7 s7 ht et => ⟨t, rfl, _, SqT.of et, rfl, _, _, rfl, _, _, rfl, rfl, ?_⟩⟩⟩
      have s07 := (s35.trans s6).trans s7
      have fin : ∀ t2, H7 t2 = none → Q (.ref t2) (upd H7 t2 (.tup [.int (atOf F low high wide left (rowOf F low high c wide ns)), .int (rowOf F low high c wide ns)])) := fun t2 ht2 =>
        q ns t2 _ ⟨hperm, hpw⟩ (s07.trans (Same.new ht2)) (s07.free ht2) upd_same
      cases left with
      | true => exact ite2 (fun _ => ⟨by decide, fun t2 ht2 => fin t2 ht2⟩) (fun h => absurd rfl h)
      | false => exact ite2 (fun h => absurd h (by decide +kernel)) (fun _ => ⟨_, rfl, by decide, fun t2 ht2 => fin t2 ht2⟩)
end
end K92


namespace K92
open PySem PySem.Spec PyProof.Rows L2 KB
section
variable {P : Program} {w : World} {K : PySem.W.Frag} {mg : Str → Option Value} {base : Heap}
/-- the float that the data tell, if they tell one -/
def asFl5 (d0 d1 d2 d3 d4 : D) : Option Fl := match d0 with
  | .str s => (match d1, d2, d3, d4 with
    | .int l, .int r, .int t, .int b => if s = sideT true then (if l ≤ r ∧ t ≤ b then some ⟨true, l, r, t, b⟩ else none) else if s = sideT false then (if l ≤ r ∧ t ≤ b then some ⟨false, l, r, t, b⟩ else none) else none
    | _, _, _, _ => none)
  | _ => none
def asFl : D → Option Fl
  | .tup [d0, d1, d2, d3, d4] => asFl5 d0 d1 d2 d3 d4
  | _ => none
def kdD : D → Kd
  | .non => .non
  | .bl _ => .bl
  | .int _ => .int
  | .str _ => .str
  | .tup _ => .tup
  | .lst _ => .lst
theorem Rep.kd {H : Hp} {d : D} {v : V} (h : Rep H d v) : KdOf H v (kdD d) := by
  cases d with
  | non =>
    have h : v = .non := h
    subst h
    exact .non
  | bl b =>
    have h : v = .bl b := h
    subst h
    exact .bl b
  | int b =>
    have h : v = .int b := h
    subst h
    exact .int b
  | str b =>
    have h : v = .str (S b) := h
    subst h
    exact .str _
  | tup ds =>
    obtain ⟨a, xs, rfl, g, _⟩ := h
    exact .tup g
  | lst ds =>
    obtain ⟨a, xs, rfl, g, _⟩ := h
    exact .lst g
theorem in_strs {k : List Nat} {zs : List (List Nat)} : inV (V.str (S k)) (zs.map fun z => V.str (S z)) = decide (k ∈ zs) := by
  unfold inV
  induction zs with
  | nil => rfl
  | cons z zs ih =>
    rw [List.map_cons, List.any_cons, ih, Bool.eq_iff_iff]
    have e : eqV (V.str (S z)) (V.str (S k)) = decide (k = z) := by
      show decide (S z = S k) = _
      rw [decide_eq_decide, S_inj]
      exact eq_comm
    rw [e]
    simp
def spIsFloat : Sp := fun vs H Q _ => ∃ v d, vs = [v] ∧ Rep H d v ∧ ∀ H', Same H H' → Q (.bl (asFl d).isSome) H'
theorem okIsFloat (T : Top K w mg) : Ok P w K mg base CX0 2 "is_float" ["value"] spIsFloat := by
  have GIsWholeBeside : Ok P w K mg base CX0 1 "is_whole_beside" ["value"] spWhole := okWholeBeside T
  have m_isinstance := T.m_isinstance
  have m_tuple := T.m_tuple
  have m_str := T.m_str
  have m_len := T.m_len
  have m_all := T.m_all
  obtain ⟨tL, m_LEFT⟩ := T.m_LEFT
  obtain ⟨tR, m_RIGHT⟩ := T.m_RIGHT
  refine mkOk T.f_is_float scIsFloat (fun vs H Q E h => ?_) (fun f cdv A outer s H vs Q E hr h => ?_)
  · obtain ⟨_, _, rfl, _⟩ := h
    rfl
  · obtain ⟨v, d, rfl, hv, q⟩ := h
    refine ⟨_, pss_cons (ps_if (PW.pt (pw_or (pt_not (pt_val (pe_callB call_isi (by rfl) m_isinstance (by decide +kernel) (pa_cons (pv 0) (pa_cons (pe_bltn (u := .type "tuple") (v := .ty "tuple") (by rfl) m_tuple (by decide +kernel) rfl) pa_nil))))) (pw_or (pt_cmpR op_ne (pe_callB (call_len_seqK (K := K) rfl) (by rfl) m_len PySem.boot_len (pa_cons (pv 0) pa_nil)) (pe_int) (nomark _)) (pw_or1 (pt_not (pt_val (pe_callB call_isi (by rfl) m_isinstance (by decide +kernel) (pa_cons (pe_ix ix_tup (pv 0) (pe_int) (fun _ _ => rfl)) (pa_cons (pe_bltn (u := .type "str") (v := .ty "str") (by rfl) m_str (by decide +kernel) rfl) pa_nil)))))))))
  (pss_one (ps_ret (pe_bl)))
  (pss_nil))
  (pss_cons (ps_if (PW.pt (pw_or (pt_cmpR op_notIn_seq (pe_ix ix_tup (pv 0) (pe_int) (fun _ _ => rfl)) (pe_tup (pa_cons (pe_glob (v := .str "left") rfl m_LEFT ⟨_, rfl⟩) (pa_cons (pe_glob (v := .str "right") rfl m_RIGHT ⟨_, rfl⟩) pa_nil))) (by with_unfolding_all rfl)) (pw_or1 (pt_not (pt_val (pe_callB (cr_all rfl) (by rfl) m_all (by decide +kernel) (pa_cons (pe_lc (own := [("number", 1)]) rfl scIsFloat.nd (pi_tup (pe_slice sl_tup (pv 0) (po_some (pe_int)) po_none)) (blkOk_by (own := [("number", 1)]) (N := ["value", "number"]) (sc := defScope sIsFloat) (by decide +kernel)) (fun _ _ _ _ _ => pg_name (i := 1) scIsFloat.nd rfl (Or.inl rfl)) (fun _ _ _ _ _ => pts_nil) (fun _ _ _ _ _ => pcall GIsWholeBeside (hr.mono (by decide)) (by rfl) pass0 (pa_cons (pv 1) pa_nil))) pa_nil)))))))
  (pss_one (ps_ret (pe_bl)))
  (pss_nil))
  (pss_one (ps_ret (pe_and (pe_cmpR op_le (pe_ix ix_tup (pv 0) (pe_int) (fun _ _ => rfl)) (pe_ix ix_tup (pv 0) (pe_int) (fun _ _ => rfl)) (nomark _)) (pe_one (pe_cmpR op_le (pe_ix ix_tup (pv 0) (pe_int) (fun _ _ => rfl)) (pe_ix ix_tup (pv 0) (pe_int) (fun _ _ => rfl)) (nomark _))))))), ?_⟩
    (try simp only [cx_K, cx_w, rIn, rMulS, CwR.tReplC, tM1, tBM0, rPop, rExtend, rReverse, rLenS, rEqE, rNeE, rSetL, rIntI, rIntB, tBM, rAppend, rIxL, rIxT, rCat, rSlL, rSlS, gTup, tYes, wipe, tSeq, tAsg, tIfS, tRet, tRetN, tDrop, tNext, tBreak, tCont, tNever, tAug, ipI, tPar, tPar3, gName, gCons, gNil, gSub, tVar, tC, tOp, tUn, tIf, tAndV, tOrV, tNotV, tAnd, tOr, tNot, L2.tB, tTest, tCmp, tChain, tCB, tCons, tNil, tCall, tTup, tLst, tSl, tPart, tNoPart, rI, rI0, rU, rEq, rNe, scal_ii, scal_ss, scal_bb, scal_nn, scal_is, scal_si, rIxS, S_len, S_cps, S_inj, L2.start, List.map_cons, List.map_nil, List.cons_append, List.nil_append, List.append_nil, List.getElem?_cons_zero, List.getElem?_cons_succ, List.set_cons_zero, List.set_cons_succ, List.length_cons, List.length_nil, Nat.reduceAdd, Nat.reduceSub, List.replicate_succ, List.replicate_zero, Option.some.injEq, V.int.injEq, V.str.injEq, V.bl.injEq, V.ref.injEq, List.cons.injEq, and_true, true_and, exists_eq_left, exists_eq_left', exists_and_left, exists_eq, exists_eq', decide_eq_true_eq, Bool.not_eq_true', decide_eq_false_iff_not, Bool.false_eq_true, if_false, if_true, reduceIte, ite_self, CMul, CPow, CDiv])
    have hk := Rep.kd hv
    have no : asFl d = none → Q (.bl false) H := fun e => qb (q H (Same.refl _)) (by rw [e]; rfl)
    cases d with
    | non => exact isk .tup (by decide) hk ⟨_, rfl, ite2 (fun _ => no rfl) (fun h => absurd rfl h)⟩
    | bl b => exact isk .tup (by decide) hk ⟨_, rfl, ite2 (fun _ => no rfl) (fun h => absurd rfl h)⟩
    | int b => exact isk .tup (by decide) hk ⟨_, rfl, ite2 (fun _ => no rfl) (fun h => absurd rfl h)⟩
    | str b => exact isk .tup (by decide) hk ⟨_, rfl, ite2 (fun _ => no rfl) (fun h => absurd rfl h)⟩
    | lst b => exact isk .tup (by decide) hk ⟨_, rfl, ite2 (fun _ => no rfl) (fun h => absurd rfl h)⟩
    | tup ds =>
      refine isk .tup (by decide) hk ⟨_, rfl, ite2 (fun h => absurd h (show ¬ (isKd .tup .tup = false) by decide)) (fun _ => ?_)⟩
      obtain ⟨a, xs, rfl, g, hR⟩ := hv
      have hln := hR.length
      refine ⟨a, rfl, xs, .inr (SqT.of g), ite2 (fun h5 => ?_) (fun h5 => ?_)⟩
      · refine no ?_
        match ds, hln with
        | [], _ => rfl
        | [_], _ => rfl
        | [_, _], _ => rfl
        | [_, _, _], _ => rfl
        | [_, _, _, _], _ => rfl
        | [_, _, _, _, _], hln => exact absurd (by rw [hln]; rfl) h5
        | _ :: _ :: _ :: _ :: _ :: _ :: _, _ => rfl
      · have h5 : ds.length = 5 := by
          have : ((xs.length : Nat) : Int) = 5 := Decidable.of_not_not h5
          omega
        obtain ⟨d0, d1, d2, d3, d4, rfl⟩ : ∃ d0 d1 d2 d3 d4, ds = [d0, d1, d2, d3, d4] := by
          match ds, h5 with
          | [d0, d1, d2, d3, d4], _ => exact ⟨d0, d1, d2, d3, d4, rfl⟩
        obtain ⟨x0, _, rfl, r0, x1, _, rfl, r1, x2, _, rfl, r2, x3, _, rfl, r3, x4, _, rfl, r4, rfl⟩ := hR
        refine ⟨a, rfl, _, SqT.of g, _, at_nat (i := 0) rfl, isk .str (by decide) (Rep.kd r0) ⟨_, rfl, ite2 (fun h0 => no ?_) (fun h0 => ?_)⟩⟩
        · cases d0 <;> first | rfl | exact absurd h0 (show ¬ (isKd .str .str = false) by decide)
        · obtain ⟨s0, rfl⟩ : ∃ s0, d0 = .str s0 := by
            cases d0 <;> first | exact ⟨_, rfl⟩ | exact absurd rfl h0
          have r0 : x0 = .str (S s0) := r0
          subst r0
          refine ⟨a, rfl, _, SqT.of g, _, at_nat (i := 0) rfl, by decide, fun p hp => ⟨_, .inr (SqT.of upd_same), rfl, rfl, ?_⟩⟩
          have s1 : Same H (upd H p (.tup [V.str (Str.ofString "left"), V.str (Str.ofString "right")])) := Same.new hp
          rw [show inV (V.str (S s0)) [V.str (Str.ofString "left"), V.str (Str.ofString "right")] = decide (s0 ∈ [sideT true, sideT false]) from in_strs (zs := [sideT true, sideT false])]
          have no2 : ∀ H', Same H H' → asFl (.tup [.str s0, d1, d2, d3, d4]) = none → Q (.bl false) H' := fun H' sm e => qb (q H' sm) (by rw [e]; rfl)
          refine ite2 (fun hin => no2 _ s1 ?_) (fun hin => ?_)
          · have hin := of_decide_eq_false hin
            simp only [List.mem_cons, List.not_mem_nil, or_false, not_or] at hin
            show asFl5 (.str s0) d1 d2 d3 d4 = none
            unfold asFl5
            split
            · rename_i e
              cases e
              split
              · rw [if_neg hin.1, if_neg hin.2]
              · rfl
            · rename_i h
              exact absurd rfl (h _)
          · have hin : s0 ∈ [sideT true, sideT false] := of_decide_eq_true (by simpa only [Bool.not_eq_false] using hin)
            have hRt : Reps H [d1, d2, d3, d4] [x1, x2, x3, x4] := ⟨_, _, rfl, r1, _, _, rfl, r2, _, _, rfl, r3, _, _, rfl, r4, rfl⟩
            refine ⟨.ref a, rfl, 1, rfl, a, _, rfl, SqT.of (s1 _ _ g), ?_, fun p2 hp2 => ?_⟩
            · exact fun z => absurd z.1 (show ¬ (HT.sIx 5 0 (some 1) = 0) by decide)
            · have s2 := s1.trans (Same.new (o := .tup (cutV [V.str (S s0), x1, x2, x3, x4] (some 1) none)) hp2)
              refine ⟨p2, rfl, ⟨_, SqT.of upd_same⟩, fun D hD => lc_tup (xs := [x1, x2, x3, x4]) (fun i H3 => Same (upd (upd H p (.tup [V.str (Str.ofString "left"), V.str (Str.ofString "right")])) p2 (.tup (cutV [V.str (S s0), x1, x2, x3, x4] (some 1) none))) H3 ∧ H3 D = some (.lst ((([d1, d2, d3, d4].take i).map fun d => decide (kdD d = .int)).map V.bl))) ⟨Same.new hD, upd_same⟩ (fun i H3 _ h => SqT.of (h.1 _ _ upd_same)) (fun i x H3 hx hP => ?_) (fun H3 hP => ?_)⟩
              · obtain ⟨s3, e3⟩ := hP
                obtain ⟨d, hd, rd⟩ := hRt.get hx
                have hi : i < 4 := (List.getElem?_eq_some_iff.mp hx).1
                refine ⟨rfl, ?_⟩
                (try simp only [cx_K, cx_w, rIn, rMulS, CwR.tReplC, tM1, tBM0, rPop, rExtend, rReverse, rLenS, rEqE, rNeE, rSetL, rIntI, rIntB, tBM, rAppend, rIxL, rIxT, rCat, rSlL, rSlS, gTup, tYes, wipe, tSeq, tAsg, tIfS, tRet, tRetN, tDrop, tNext, tBreak, tCont, tNever, tAug, ipI, tPar, tPar3, gName, gCons, gNil, gSub, tVar, tC, tOp, tUn, tIf, tAndV, tOrV, tNotV, tAnd, tOr, tNot, L2.tB, tTest, tCmp, tChain, tCB, tCons, tNil, tCall, tTup, tLst, tSl, tPart, tNoPart, rI, rI0, rU, rEq, rNe, scal_ii, scal_ss, scal_bb, scal_nn, scal_is, scal_si, rIxS, S_len, S_cps, S_inj, L2.start, List.map_cons, List.map_nil, List.cons_append, List.nil_append, List.append_nil, List.getElem?_cons_zero, List.getElem?_cons_succ, List.set_cons_zero, List.set_cons_succ, List.length_cons, List.length_nil, Nat.reduceAdd, Nat.reduceSub, List.replicate_succ, List.replicate_zero, Option.some.injEq, V.int.injEq, V.str.injEq, V.bl.injEq, V.ref.injEq, List.cons.injEq, and_true, true_and, exists_eq_left, exists_eq_left', exists_and_left, exists_eq, exists_eq', decide_eq_true_eq, Bool.not_eq_true', decide_eq_false_iff_not, Bool.false_eq_true, if_false, if_true, reduceIte, ite_self, CMul, CPow, CDiv])
                refine ⟨x, _, rfl, (Rep.kd rd).same (s2.trans s3), _, e3, ?_, s3.mut hD, ?_⟩
                · rw [List.length_map, List.length_map, List.length_take]
                  exact sz5' (by omega)
                · rw [upd_same, take_snoc hd, List.map_append, List.map_append]
                  rfl
              · obtain ⟨s3, e3⟩ := hP
                have sm := s2.trans s3
                have g3 := sm _ _ g
                refine ⟨D, _, rfl, SqL.of e3, _, rfl, ite2 (fun hw => no2 _ sm ?_) (fun hw => ?_)⟩
                · show asFl5 (.str s0) d1 d2 d3 d4 = none
                  unfold asFl5
                  split
                  · rename_i e
                    cases e
                    split
                    · exact absurd hw (show ¬ (true = false) by decide)
                    · rfl
                  · rename_i h
                    exact absurd rfl (h _)
                · have hw : ([d1, d2, d3, d4].map fun d => decide (kdD d = .int)).all id = true := by simpa using hw
                  simp only [List.map_cons, List.map_nil, List.all_cons, List.all_nil, id, Bool.and_true, Bool.and_eq_true, decide_eq_true_eq] at hw
                  obtain ⟨l, rfl⟩ : ∃ l, d1 = .int l := by cases d1 <;> first | exact ⟨_, rfl⟩ | exact absurd hw.1 (by simp [kdD])
                  obtain ⟨r, rfl⟩ : ∃ l, d2 = .int l := by cases d2 <;> first | exact ⟨_, rfl⟩ | exact absurd hw.2.1 (by simp [kdD])
                  obtain ⟨t, rfl⟩ : ∃ l, d3 = .int l := by cases d3 <;> first | exact ⟨_, rfl⟩ | exact absurd hw.2.2.1 (by simp [kdD])
                  obtain ⟨b, rfl⟩ : ∃ l, d4 = .int l := by cases d4 <;> first | exact ⟨_, rfl⟩ | exact absurd hw.2.2.2 (by simp [kdD])
                  have r1 : x1 = .int l := r1
                  have r2 : x2 = .int r := r2
                  have r3 : x3 = .int t := r3
                  have r4 : x4 = .int b := r4
                  subst r1 r2 r3 r4
                  have hd : asFl (.tup [.str s0, .int l, .int r, .int t, .int b]) = if s0 = sideT true then (if l ≤ r ∧ t ≤ b then some ⟨true, l, r, t, b⟩ else none) else if s0 = sideT false then (if l ≤ r ∧ t ≤ b then some ⟨false, l, r, t, b⟩ else none) else none := rfl
                  have hb : (asFl (.tup [.str s0, .int l, .int r, .int t, .int b])).isSome = (decide (l ≤ r) && decide (t ≤ b)) := by
                    rw [hd]
                    simp only [List.mem_cons, List.not_mem_nil, or_false] at hin
                    by_cases h1 : l ≤ r <;> by_cases h2 : t ≤ b <;> rcases hin with h | h <;> subst h <;> simp [h1, h2, sideT]
                  have q2 := q H3 sm
                  rw [hb] at q2
                  refine ⟨a, rfl, _, SqT.of g3, _, at_nat (i := 1) rfl, a, rfl, _, SqT.of g3, _, at_nat (i := 2) rfl, l, rfl, r, rfl, ite2 (fun h1 => ?_) (fun h1 => qb q2 (by rw [decide_eq_false h1, Bool.false_and]))⟩
                  exact ⟨a, rfl, _, SqT.of g3, _, at_nat (i := 3) rfl, a, rfl, _, SqT.of g3, _, at_nat (i := 4) rfl, t, rfl, b, rfl, qb q2 (by rw [decide_eq_true h1, Bool.true_and])⟩
end
end K92


namespace K92
open PySem PySem.Spec PyProof.Rows L2 KB
section
variable {P : Program} {w : World} {K : PySem.W.Frag} {mg : Str → Option Value} {base : Heap}
/-- the floats that the data tell, each of them right -/
def asFls : List D → Option (List Fl)
  | [] => some []
  | d :: ds => match asFl d, asFls ds with
    | some f, some F => some (f :: F)
    | _, _ => none
def sortedT : List Fl → Bool
  | [] => true
  | [_] => true
  | f :: g :: F => decide (f.t ≤ g.t) && sortedT (g :: F)
def areFl : D → Bool
  | .lst ds => (match asFls ds with | some F => sortedT F | none => false)
  | _ => false
theorem asFls_flags : ∀ ds : List D, (ds.map fun d => (asFl d).isSome).all id = (asFls ds).isSome
  | [] => rfl
  | d :: ds => by
    rw [List.map_cons, List.all_cons, asFls_flags ds, asFls]
    cases asFl d <;> cases asFls ds <;> rfl
theorem asFls_at : ∀ {ds : List D} {F : List Fl}, asFls ds = some F → F.length = ds.length ∧ ∀ (i : Nat) (d : D), ds[i]? = some d → ∃ f, F[i]? = some f ∧ asFl d = some f
  | [], F, h => by
    have h : some [] = some F := h
    have h := Option.some.inj h
    subst h
    exact ⟨rfl, fun i d e => by cases e⟩
  | d :: ds, F, h => by
    unfold asFls at h
    cases h1 : asFl d with
    | none => rw [h1] at h; cases h2 : asFls ds <;> (rw [h2] at h; cases h)
    | some f =>
      cases h2 : asFls ds with
      | none => rw [h1, h2] at h; cases h
      | some G =>
        rw [h1, h2] at h
        have h := Option.some.inj h
        subst h
        obtain ⟨a, b⟩ := asFls_at h2
        refine ⟨by rw [List.length_cons, List.length_cons, a], fun i e he => ?_⟩
        cases i with
        | zero =>
          have he : d = e := Option.some.inj he
          subst he
          exact ⟨f, rfl, h1⟩
        | succ i => exact b i e he
theorem asFl_tup {d : D} {f : Fl} (h : asFl d = some f) : ∃ s, d = .tup [.str s, .int f.l, .int f.r, .int f.t, .int f.b] := by
  unfold asFl at h
  split at h
  · unfold asFl5 at h
    split at h
    · split at h
      · split at h
        · split at h
          · have h := Option.some.inj h
            subst h
            exact ⟨_, rfl⟩
          · cases h
        · split at h
          · split at h
            · have h := Option.some.inj h
              subst h
              exact ⟨_, rfl⟩
            · cases h
          · cases h
      · cases h
    · cases h
  · cases h
def tAt (F : List Fl) (k : Nat) : Int := (F[k]?.map (·.t)).getD 0
theorem sortedT_flags : ∀ F : List Fl, sortedT F = ((List.range (F.length - 1)).map fun k => decide (tAt F k ≤ tAt F (k + 1))).all id
  | [] => rfl
  | [_] => rfl
  | f :: g :: F => by
    have ih := sortedT_flags (g :: F)
    rw [sortedT, ih]
    show _ = ((List.range (F.length + 1)).map _).all id
    rw [List.range_succ_eq_map, List.map_cons, List.all_cons, List.map_map]
    rfl
def spAreFloats : Sp := fun vs H Q _ => ∃ v d, vs = [v] ∧ Rep H d v ∧ (∀ ds, d = .lst ds → ds.length ≤ 1000) ∧ ∀ H', Same H H' → Q (.bl (areFl d)) H'
theorem okAreFloats (T : Top K w mg) : Ok P w K mg base CX0 3 "are_floats" ["value"] spAreFloats := by
  have GIsFloat : Ok P w K mg base CX0 2 "is_float" ["value"] spIsFloat := okIsFloat T
  have m_isinstance := T.m_isinstance
  have m_list := T.m_list
  have m_len := T.m_len
  have m_all := T.m_all
  have m_range := T.m_range
  refine mkOk T.f_are_floats scAreFloats (fun vs H Q E h => ?_) (fun f cdv A outer s H vs Q E hr h => ?_)
  · obtain ⟨_, _, rfl, _⟩ := h
    rfl
  · obtain ⟨v, d, rfl, hv, hl, q⟩ := h
    refine ⟨_, pss_cons (ps_if (PW.pt (pw_or (pt_not (pt_val (pe_callB call_isi (by rfl) m_isinstance (by decide +kernel) (pa_cons (pv 0) (pa_cons (pe_bltn (u := .type "list") (v := .ty "list") (by rfl) m_list (by decide +kernel) rfl) pa_nil))))) (pw_or1 (pt_not (pt_val (pe_callB (cr_all rfl) (by rfl) m_all (by decide +kernel) (pa_cons (pe_lc (own := [("one", 2)]) rfl scAreFloats.nd (pi_list (pv 0)) (blkOk_by (own := [("one", 2)]) (N := ["value", "k", "one"]) (sc := defScope sAreFloats) (by decide +kernel)) (fun _ _ _ _ _ => pg_name (i := 2) scAreFloats.nd rfl (Or.inl rfl)) (fun _ _ _ _ _ => pts_nil) (fun _ _ _ _ _ => pcall GIsFloat (hr.mono (by decide)) (by rfl) pass0 (pa_cons (pv 2) pa_nil))) pa_nil)))))))
  (pss_one (ps_ret (pe_bl)))
  (pss_nil))
  (pss_one (ps_ret (pe_callB (cr_all rfl) (by rfl) m_all (by decide +kernel) (pa_cons (pe_lc (own := [("k", 1)]) rfl scAreFloats.nd (pi_range1 rfl m_range (pa_cons (pe_op op_sub (pe_callB (call_len_seqK (K := K) rfl) (by rfl) m_len PySem.boot_len (pa_cons (pv 0) pa_nil)) (pe_int)) pa_nil)) (blkOk_by (own := [("k", 1)]) (N := ["value", "k", "one"]) (sc := defScope sAreFloats) (by decide +kernel)) (fun _ _ _ _ _ => pg_name (i := 1) scAreFloats.nd rfl (Or.inl rfl)) (fun _ _ _ _ _ => pts_nil) (fun _ _ _ _ _ => pe_cmpR op_le (pe_ix (ix_tupK (K := K) rfl) (pe_ix (ix_listK (K := K) rfl) (pv 0) (pv 1) (fun _ _ => rfl)) (pe_int) (fun _ _ => rfl)) (pe_ix (ix_tupK (K := K) rfl) (pe_ix (ix_listK (K := K) rfl) (pv 0) (pe_op op_add (pv 1) (pe_int)) (fun _ _ => rfl)) (pe_int) (fun _ _ => rfl)) (nomark _))) pa_nil)))), ?_⟩
    (try simp only [cx_K, cx_w, rIn, rMulS, CwR.tReplC, tM1, tBM0, rPop, rExtend, rReverse, rLenS, rEqE, rNeE, rSetL, rIntI, rIntB, tBM, rAppend, rIxL, rIxT, rCat, rSlL, rSlS, gTup, tYes, wipe, tSeq, tAsg, tIfS, tRet, tRetN, tDrop, tNext, tBreak, tCont, tNever, tAug, ipI, tPar, tPar3, gName, gCons, gNil, gSub, tVar, tC, tOp, tUn, tIf, tAndV, tOrV, tNotV, tAnd, tOr, tNot, L2.tB, tTest, tCmp, tChain, tCB, tCons, tNil, tCall, tTup, tLst, tSl, tPart, tNoPart, rI, rI0, rU, rEq, rNe, scal_ii, scal_ss, scal_bb, scal_nn, scal_is, scal_si, rIxS, S_len, S_cps, S_inj, L2.start, List.map_cons, List.map_nil, List.cons_append, List.nil_append, List.append_nil, List.getElem?_cons_zero, List.getElem?_cons_succ, List.set_cons_zero, List.set_cons_succ, List.length_cons, List.length_nil, Nat.reduceAdd, Nat.reduceSub, List.replicate_succ, List.replicate_zero, Option.some.injEq, V.int.injEq, V.str.injEq, V.bl.injEq, V.ref.injEq, List.cons.injEq, and_true, true_and, exists_eq_left, exists_eq_left', exists_and_left, exists_eq, exists_eq', decide_eq_true_eq, Bool.not_eq_true', decide_eq_false_iff_not, Bool.false_eq_true, if_false, if_true, reduceIte, ite_self, CMul, CPow, CDiv])
    have hk := Rep.kd hv
    have no : areFl d = false → Q (.bl false) H := fun e => qb (q H (Same.refl _)) e.symm
    cases d with
    | non => exact isk .lst (by decide) hk ⟨_, rfl, ite2 (fun _ => no rfl) (fun h => absurd rfl h)⟩
    | bl b => exact isk .lst (by decide) hk ⟨_, rfl, ite2 (fun _ => no rfl) (fun h => absurd rfl h)⟩
    | int b => exact isk .lst (by decide) hk ⟨_, rfl, ite2 (fun _ => no rfl) (fun h => absurd rfl h)⟩
    | str b => exact isk .lst (by decide) hk ⟨_, rfl, ite2 (fun _ => no rfl) (fun h => absurd rfl h)⟩
    | tup b => exact isk .lst (by decide) hk ⟨_, rfl, ite2 (fun _ => no rfl) (fun h => absurd rfl h)⟩
    | lst ds =>
      have hlen := hl ds rfl
      refine isk .lst (by decide) hk ⟨_, rfl, ite2 (fun h => absurd h (show ¬ (isKd .lst .lst = false) by decide)) (fun _ => ?_)⟩
      obtain ⟨a, xs, rfl, g, hR⟩ := hv
      have hln := hR.length
      refine ⟨.ref a, rfl, a, rfl, ⟨_, SqL.of g⟩, fun D1 hD1 => lc_list (xs := xs) (fun i H3 => Same H H3 ∧ H3 D1 = some (.lst (((ds.take i).map fun d => (asFl d).isSome).map V.bl))) ⟨Same.new hD1, upd_same⟩ (fun i H3 _ h => SqL.of (h.1 _ _ g)) (fun i x H3 hx hP => ?_) (fun H3 hP => ?_)⟩
      · obtain ⟨s3, e3⟩ := hP
        obtain ⟨d, hd, rd⟩ := hR.get hx
        have hi : i < ds.length := (List.getElem?_eq_some_iff.mp hd).1
        refine ⟨rfl, ?_⟩
        (try simp only [cx_K, cx_w, rIn, rMulS, CwR.tReplC, tM1, tBM0, rPop, rExtend, rReverse, rLenS, rEqE, rNeE, rSetL, rIntI, rIntB, tBM, rAppend, rIxL, rIxT, rCat, rSlL, rSlS, gTup, tYes, wipe, tSeq, tAsg, tIfS, tRet, tRetN, tDrop, tNext, tBreak, tCont, tNever, tAug, ipI, tPar, tPar3, gName, gCons, gNil, gSub, tVar, tC, tOp, tUn, tIf, tAndV, tOrV, tNotV, tAnd, tOr, tNot, L2.tB, tTest, tCmp, tChain, tCB, tCons, tNil, tCall, tTup, tLst, tSl, tPart, tNoPart, rI, rI0, rU, rEq, rNe, scal_ii, scal_ss, scal_bb, scal_nn, scal_is, scal_si, rIxS, S_len, S_cps, S_inj, L2.start, List.map_cons, List.map_nil, List.cons_append, List.nil_append, List.append_nil, List.getElem?_cons_zero, List.getElem?_cons_succ, List.set_cons_zero, List.set_cons_succ, List.length_cons, List.length_nil, Nat.reduceAdd, Nat.reduceSub, List.replicate_succ, List.replicate_zero, Option.some.injEq, V.int.injEq, V.str.injEq, V.bl.injEq, V.ref.injEq, List.cons.injEq, and_true, true_and, exists_eq_left, exists_eq_left', exists_and_left, exists_eq, exists_eq', decide_eq_true_eq, Bool.not_eq_true', decide_eq_false_iff_not, Bool.false_eq_true, if_false, if_true, reduceIte, ite_self, CMul, CPow, CDiv])
        refine ⟨x, d, rfl, rd.mono s3, fun H4 s4 => ⟨_, s4 _ _ e3, ?_, (s3.trans s4).mut hD1, ?_⟩⟩
        · rw [List.length_map, List.length_map, List.length_take]
          exact sz5' (by omega)
        · rw [upd_same, take_snoc hd, List.map_append, List.map_append]
          rfl
      · obtain ⟨s3, e3⟩ := hP
        rw [hln, List.take_length] at e3
        refine ⟨D1, _, rfl, SqL.of e3, _, rfl, ?_⟩
        rw [asFls_flags]
        cases hF : asFls ds with
        | none => exact ite2 (fun _ => qb (q H3 s3) (by show false = (match asFls ds with | some F => sortedT F | none => false); rw [hF])) (fun h => absurd rfl h)
        | some F =>
          refine ite2 (fun h => nomatch h) (fun _ => ?_)
          obtain ⟨hFl, hFa⟩ := asFls_at hF
          have hz : xs.length ≤ sizeLine := sz5 (by omega)
          have hat : ∀ k, k < F.length → ∃ t s f, xs[k]? = some (.ref t) ∧ F[k]? = some f ∧ H t = some (.tup [.str (S s), .int f.l, .int f.r, .int f.t, .int f.b]) := fun k hk => by
            have hkd : k < ds.length := by omega
            obtain ⟨f, hf, hd⟩ := hFa k _ (List.getElem?_eq_getElem hkd)
            obtain ⟨s, hs⟩ := asFl_tup hd
            have hkx : k < xs.length := by omega
            obtain ⟨d, hd2, rd⟩ := hR.get (List.getElem?_eq_getElem hkx)
            rw [List.getElem?_eq_getElem hkd, hs] at hd2
            have hd2 := Option.some.inj hd2
            subst hd2
            obtain ⟨t, ys, e, ht, _, _, rfl, rfl, _, _, rfl, rfl, _, _, rfl, rfl, _, _, rfl, rfl, _, _, rfl, rfl, rfl⟩ := rd
            exact ⟨t, s, f, by rw [List.getElem?_eq_getElem hkx, e], hf, ht⟩
          have g3 := s3 _ _ g
          refine ⟨.ref a, rfl, a, xs, rfl, .inl (SqL.of g3), (xs.length : Int), 1, rfl, rfl, _, rfl, by omega, by omega, fun D2 hD2 => lc_range (lo := 0) (n := ((xs.length : Int) - 1).toNat) (fun i H5 => Same H3 H5 ∧ H5 D2 = some (.lst (((List.range i).map fun k => decide (tAt F k ≤ tAt F (k + 1))).map V.bl))) ⟨Same.new hD2, upd_same⟩ (fun i H5 hi hP => ?_) (fun H5 hP => ?_)⟩
          · obtain ⟨s5, e5⟩ := hP
            have hi1 : i + 1 < F.length := by omega
            obtain ⟨t1, z1, f1, x1, y1, h1⟩ := hat i (by omega)
            obtain ⟨t2, z2, f2, x2, y2, h2⟩ := hat (i + 1) hi1
            have g5 := s5 _ _ g3
            refine ⟨rfl, ?_⟩
            (try simp only [cx_K, cx_w, rIn, rMulS, CwR.tReplC, tM1, tBM0, rPop, rExtend, rReverse, rLenS, rEqE, rNeE, rSetL, rIntI, rIntB, tBM, rAppend, rIxL, rIxT, rCat, rSlL, rSlS, gTup, tYes, wipe, tSeq, tAsg, tIfS, tRet, tRetN, tDrop, tNext, tBreak, tCont, tNever, tAug, ipI, tPar, tPar3, gName, gCons, gNil, gSub, tVar, tC, tOp, tUn, tIf, tAndV, tOrV, tNotV, tAnd, tOr, tNot, L2.tB, tTest, tCmp, tChain, tCB, tCons, tNil, tCall, tTup, tLst, tSl, tPart, tNoPart, rI, rI0, rU, rEq, rNe, scal_ii, scal_ss, scal_bb, scal_nn, scal_is, scal_si, rIxS, S_len, S_cps, S_inj, L2.start, List.map_cons, List.map_nil, List.cons_append, List.nil_append, List.append_nil, List.getElem?_cons_zero, List.getElem?_cons_succ, List.set_cons_zero, List.set_cons_succ, List.length_cons, List.length_nil, Nat.reduceAdd, Nat.reduceSub, List.replicate_succ, List.replicate_zero, Option.some.injEq, V.int.injEq, V.str.injEq, V.bl.injEq, V.ref.injEq, List.cons.injEq, and_true, true_and, exists_eq_left, exists_eq_left', exists_and_left, exists_eq, exists_eq', decide_eq_true_eq, Bool.not_eq_true', decide_eq_false_iff_not, Bool.false_eq_true, if_false, if_true, reduceIte, ite_self, CMul, CPow, CDiv])
            refine ⟨_, SqL.of g5, _, by rw [Int.zero_add]; exact at_nat x1, _, rfl, _, SqT.of (s5 _ _ (s3 _ _ h1)), _, at_nat (i := 3) rfl, _, SqL.of g5, _, by rw [Int.zero_add]; exact at_nat (i := i + 1) x2, _, rfl, _, SqT.of (s5 _ _ (s3 _ _ h2)), _, at_nat (i := 3) rfl, f1.t, rfl, f2.t, rfl, _, e5, ?_, s5.mut hD2, ?_⟩
            · rw [List.length_map, List.length_map, List.length_range]
              exact sz5' (by omega)
            · rw [upd_same, List.range_succ, List.map_append, List.map_append]
              have e1 : tAt F i = f1.t := by simp [tAt, y1]
              have e2 : tAt F (i + 1) = f2.t := by simp [tAt, y2]
              simp [e1, e2]
          · obtain ⟨s5, e5⟩ := hP
            refine ⟨D2, _, rfl, SqL.of e5, qb (q H5 (s3.trans s5)) ?_⟩
            show _ = (match asFls ds with | some F => sortedT F | none => false)
            rw [hF]
            show _ = sortedT F
            rw [sortedT_flags]
            have : ((xs.length : Int) - 1).toNat = F.length - 1 := by omega
            rw [this]
end
end K92


namespace K92
open PySem PySem.Spec PyProof.Rows L2 KB
section
variable {P : Program} {w : World} {K : PySem.W.Frag} {mg : Str → Option Value} {base : Heap}
theorem ifT {c : Prop} [Decidable c] {a b : Prop} (h : c) (x : a) : if c then a else b := by
  rw [if_pos h]
  exact x
theorem ifF {c : Prop} [Decidable c] {a b : Prop} (h : ¬ c) (x : b) : if c then a else b := by
  rw [if_neg h]
  exact x
def Good (F : List Fl) : Prop := areFl (flsD F) = true ∧ F.length ≤ 1000
def spCheck : Sp := fun vs H Q _ => ∃ v F width row, vs = [v, .int width, .int row] ∧ Rep H (flsD F) v ∧ Good F ∧ 0 ≤ width ∧ ∀ H', Same H H' → Q .non H'
theorem okCheck (T : Top K w mg) : Ok P w K mg base CX0 4 "check_room" ["floats", "width", "row"] spCheck := by
  have GAreFloats : Ok P w K mg base CX0 3 "are_floats" ["value"] spAreFloats := okAreFloats T
  have GIsCount : Ok P w K mg base CX0 2 "is_count" ["value"] spCount := okCount T
  have GIsWholeBeside : Ok P w K mg base CX0 1 "is_whole_beside" ["value"] spWhole := okWholeBeside T
  refine mkOk T.f_check_room scCheckRoom (fun vs H Q E h => ?_) (fun f cdv A outer s H vs Q E hr h => ?_)
  · obtain ⟨_, _, _, _, rfl, _⟩ := h
    rfl
  · obtain ⟨v, F, width, row, rfl, hF, hG, hw, q⟩ := h
    refine ⟨_, pss_one (ps_if (PW.pt (pw_or (pt_not (pt_val (pcall GAreFloats (hr.mono (by decide)) (by rfl) pass0 (pa_cons (pv 0) pa_nil)))) (pw_or (pt_not (pt_val (pcall GIsCount (hr.mono (by decide)) (by rfl) pass0 (pa_cons (pv 1) pa_nil)))) (pw_or1 (pt_not (pt_val (pcall GIsWholeBeside (hr.mono (by decide)) (by rfl) pass0 (pa_cons (pv 2) pa_nil))))))))
  (pss_never)
  (pss_nil)), ?_⟩
    (try simp only [cx_K, cx_w, rIn, rMulS, CwR.tReplC, tM1, tBM0, rPop, rExtend, rReverse, rLenS, rEqE, rNeE, rSetL, rIntI, rIntB, tBM, rAppend, rIxL, rIxT, rCat, rSlL, rSlS, gTup, tYes, wipe, tSeq, tAsg, tIfS, tRet, tRetN, tDrop, tNext, tBreak, tCont, tNever, tAug, ipI, tPar, tPar3, gName, gCons, gNil, gSub, tVar, tC, tOp, tUn, tIf, tAndV, tOrV, tNotV, tAnd, tOr, tNot, L2.tB, tTest, tCmp, tChain, tCB, tCons, tNil, tCall, tTup, tLst, tSl, tPart, tNoPart, rI, rI0, rU, rEq, rNe, scal_ii, scal_ss, scal_bb, scal_nn, scal_is, scal_si, rIxS, S_len, S_cps, S_inj, L2.start, List.map_cons, List.map_nil, List.cons_append, List.nil_append, List.append_nil, List.getElem?_cons_zero, List.getElem?_cons_succ, List.set_cons_zero, List.set_cons_succ, List.length_cons, List.length_nil, Nat.reduceAdd, Nat.reduceSub, List.replicate_succ, List.replicate_zero, Option.some.injEq, V.int.injEq, V.str.injEq, V.bl.injEq, V.ref.injEq, List.cons.injEq, and_true, true_and, exists_eq_left, exists_eq_left', exists_and_left, exists_eq, exists_eq', decide_eq_true_eq, Bool.not_eq_true', decide_eq_false_iff_not, Bool.false_eq_true, if_false, if_true, reduceIte, ite_self, CMul, CPow, CDiv])
    refine ⟨v, _, rfl, hF, fun ds e => by cases e; rw [List.length_map]; exact hG.2, fun H1 s1 => ⟨_, rfl, ?_⟩⟩
    rw [hG.1]
    refine ifF (fun z => nomatch z) ⟨_, _, rfl, .int width, _, rfl, ifF (fun z => ?_) ⟨_, _, rfl, .int row, _, rfl, ifF (fun z => nomatch z) (q H1 s1)⟩⟩
    have : isCount (.int width) = true := decide_eq_true hw
    rw [this] at z
    cases z
def spAt : Sp := fun vs H Q _ => ∃ v F width c wide left, vs = [v, .int width, .int c, .int wide, .str (S (sideT left))] ∧ Rep H (flsD F) v ∧ Good F ∧ 0 ≤ width ∧ 0 ≤ wide ∧
  ∀ ns t H', Bots F (startOf F c) ns → Same H H' → H t = none → H' t = some (.tup [.int (atOf F 0 width wide left (rowOf F 0 width c wide ns)), .int (rowOf F 0 width c wide ns)]) → Q (.ref t) H'
theorem okAt (T : Top K w mg) : Ok P w K mg base CX0 5 "float_at" ["floats", "width", "ceiling", "w", "side"] spAt := by
  have GCheckRoom : Ok P w K mg base CX0 4 "check_room" ["floats", "width", "row"] spCheck := okCheck T
  have GIsCount : Ok P w K mg base CX0 2 "is_count" ["value"] spCount := okCount T
  have GFloatPlace : Ok P w K mg base CX0 4 "float_place" ["floats", "low", "high", "start", "wide", "side"] spPlace := okPlace T
  have m_isinstance := T.m_isinstance
  have m_str := T.m_str
  obtain ⟨tL, m_LEFT⟩ := T.m_LEFT
  obtain ⟨tR, m_RIGHT⟩ := T.m_RIGHT
  refine mkOk T.f_float_at scFloatAt (fun vs H Q E h => ?_) (fun f cdv A outer s H vs Q E hr h => ?_)
  · obtain ⟨_, _, _, _, _, _, rfl, _⟩ := h
    rfl
  · obtain ⟨v, F, width, c, wide, left, rfl, hF, hG, hw, hwd, q⟩ := h
    refine ⟨_, pss_cons (ps_expr (pcall GCheckRoom (hr.mono (by decide)) (by rfl) pass0 (pa_cons (pv 0) (pa_cons (pv 1) (pa_cons (pv 2) pa_nil)))))
  (pss_cons (ps_if (PW.pt (pw_or (pt_not (pt_val (pcall GIsCount (hr.mono (by decide)) (by rfl) pass0 (pa_cons (pv 3) pa_nil)))) (pw_or (pt_not (pt_val (pe_callB call_isi (by rfl) m_isinstance (by decide +kernel) (pa_cons (pv 4) (pa_cons (pe_bltn (u := .type "str") (v := .ty "str") (by rfl) m_str (by decide +kernel) rfl) pa_nil))))) (pw_or1 (pt_cmpR op_notIn_seq (pv 4) (pe_tup (pa_cons (pe_glob (v := .str "left") rfl m_LEFT ⟨_, rfl⟩) (pa_cons (pe_glob (v := .str "right") rfl m_RIGHT ⟨_, rfl⟩) pa_nil))) (by with_unfolding_all rfl))))))
  (pss_never)
  (pss_nil))
  (pss_one (ps_ret (pcall GFloatPlace (hr.mono (by decide)) (by rfl) pass0 (pa_cons (pv 0) (pa_cons (pe_int) (pa_cons (pv 1) (pa_cons (pv 2) (pa_cons (pv 3) (pa_cons (pv 4) pa_nil)))))))))), ?_⟩
    (try simp only [cx_K, cx_w, rIn, rMulS, CwR.tReplC, tM1, tBM0, rPop, rExtend, rReverse, rLenS, rEqE, rNeE, rSetL, rIntI, rIntB, tBM, rAppend, rIxL, rIxT, rCat, rSlL, rSlS, gTup, tYes, wipe, tSeq, tAsg, tIfS, tRet, tRetN, tDrop, tNext, tBreak, tCont, tNever, tAug, ipI, tPar, tPar3, gName, gCons, gNil, gSub, tVar, tC, tOp, tUn, tIf, tAndV, tOrV, tNotV, tAnd, tOr, tNot, L2.tB, tTest, tCmp, tChain, tCB, tCons, tNil, tCall, tTup, tLst, tSl, tPart, tNoPart, rI, rI0, rU, rEq, rNe, scal_ii, scal_ss, scal_bb, scal_nn, scal_is, scal_si, rIxS, S_len, S_cps, S_inj, L2.start, List.map_cons, List.map_nil, List.cons_append, List.nil_append, List.append_nil, List.getElem?_cons_zero, List.getElem?_cons_succ, List.set_cons_zero, List.set_cons_succ, List.length_cons, List.length_nil, Nat.reduceAdd, Nat.reduceSub, List.replicate_succ, List.replicate_zero, Option.some.injEq, V.int.injEq, V.str.injEq, V.bl.injEq, V.ref.injEq, List.cons.injEq, and_true, true_and, exists_eq_left, exists_eq_left', exists_and_left, exists_eq, exists_eq', decide_eq_true_eq, Bool.not_eq_true', decide_eq_false_iff_not, Bool.false_eq_true, if_false, if_true, reduceIte, ite_self, CMul, CPow, CDiv])
    refine ⟨v, F, width, c, rfl, hF, hG, hw, fun H1 s1 => ⟨_, _, rfl, .int wide, _, rfl, ifF (fun z => ?_) (isk .str (by decide) (.str _) ⟨_, rfl, ifF (fun z => nomatch z) ⟨by decide, fun p hp => ⟨_, .inr (SqT.of upd_same), rfl, rfl, ?_⟩⟩⟩)⟩⟩
    · have : isCount (.int wide) = true := decide_eq_true hwd
      rw [this] at z
      cases z
    · have s2 := s1.trans (Same.new (o := .tup [V.str (Str.ofString "left"), V.str (Str.ofString "right")]) hp)
      refine ifF ?_ ⟨v, F, 0, width, c, wide, left, rfl, hF.mono s2, hG.2, fun ns t H' hb s3 ht et => q ns t H' hb (s2.trans s3) (s2.free ht) et⟩
      cases left <;> decide +kernel
end
end K92


namespace K92
open PySem PySem.Spec PyProof.Rows L2 KB
section
variable {P : Program} {w : World} {K : PySem.W.Frag} {mg : Str → Option Value} {base : Heap}
/-- takes some of the room's width -/
def takes (f : Fl) (width : Int) : Bool := if f.left then decide (0 < f.r) else decide (f.l < width)
def spLess : Sp := fun vs H Q _ => ∃ a f width, vs = [a, .int width] ∧ Rep H (flD f) a ∧ Q (.bl (takes f width)) H
theorem okLess (T : Top K w mg) : Ok P w K mg base CX0 1 "leaves_less" ["one", "width"] spLess := by
  refine mkOk T.f_leaves_less scLeavesLess (fun vs H Q E h => ?_) (fun f cdv A outer s H vs Q E hr h => ?_)
  · obtain ⟨_, _, _, rfl, _⟩ := h
    rfl
  · obtain ⟨v, f, width, rfl, hF, q⟩ := h
    obtain ⟨t, ys, rfl, ht, _, _, rfl, rfl, _, _, rfl, rfl, _, _, rfl, rfl, _, _, rfl, rfl, _, _, rfl, rfl, rfl⟩ := hF
    refine ⟨_, pss_cons (ps_asg (pv 0) (pg_tup (n := 5) rfl (pgs_cons (pg_name (i := 2) scLeavesLess.nd rfl (Or.inl rfl)) (pgs_cons (pg_name (i := 3) scLeavesLess.nd rfl (Or.inl rfl)) (pgs_cons (pg_name (i := 4) scLeavesLess.nd rfl (Or.inl rfl)) (pgs_cons (pg_name (i := 5) scLeavesLess.nd rfl (Or.inl rfl)) (pgs_cons (pg_name (i := 6) scLeavesLess.nd rfl (Or.inl rfl)) pgs_nil)))))))
  (pss_one (ps_ret (pe_ifExp (pt_cmpR op_eq (pv 2) (pe_str) (nomark _)) (pe_cmpR op_gt (pv 4) (pe_int) (nomark _)) (pe_cmpR op_lt (pv 3) (pv 1) (nomark _))))), ?_⟩
    (try simp only [cx_K, cx_w, rIn, rMulS, CwR.tReplC, tM1, tBM0, rPop, rExtend, rReverse, rLenS, rEqE, rNeE, rSetL, rIntI, rIntB, tBM, rAppend, rIxL, rIxT, rCat, rSlL, rSlS, gTup, tYes, wipe, tSeq, tAsg, tIfS, tRet, tRetN, tDrop, tNext, tBreak, tCont, tNever, tAug, ipI, tPar, tPar3, gName, gCons, gNil, gSub, tVar, tC, tOp, tUn, tIf, tAndV, tOrV, tNotV, tAnd, tOr, tNot, L2.tB, tTest, tCmp, tChain, tCB, tCons, tNil, tCall, tTup, tLst, tSl, tPart, tNoPart, rI, rI0, rU, rEq, rNe, scal_ii, scal_ss, scal_bb, scal_nn, scal_is, scal_si, rIxS, S_len, S_cps, S_inj, L2.start, List.map_cons, List.map_nil, List.cons_append, List.nil_append, List.append_nil, List.getElem?_cons_zero, List.getElem?_cons_succ, List.set_cons_zero, List.set_cons_succ, List.length_cons, List.length_nil, Nat.reduceAdd, Nat.reduceSub, List.replicate_succ, List.replicate_zero, Option.some.injEq, V.int.injEq, V.str.injEq, V.bl.injEq, V.ref.injEq, List.cons.injEq, and_true, true_and, exists_eq_left, exists_eq_left', exists_and_left, exists_eq, exists_eq', decide_eq_true_eq, Bool.not_eq_true', decide_eq_false_iff_not, Bool.false_eq_true, if_false, if_true, reduceIte, ite_self, CMul, CPow, CDiv])
    refine ⟨_, SqT.of ht, rfl, _, _, rfl, _, _, rfl, _, _, rfl, _, _, rfl, _, _, rfl, rfl, rfl, ?_⟩
    obtain ⟨left, l, r, t2, b⟩ := f
    cases left with
    | true => exact ite2 (fun _ => ⟨_, rfl, q⟩) (fun h => absurd rfl h)
    | false => exact ite2 (fun h => absurd h (show ¬ V.str (S (sideT false)) = V.str (Str.ofString "left") by decide +kernel)) (fun _ => ⟨_, rfl, q⟩)
def spFirstP : Sp := fun vs H Q _ => ∃ v F c, vs = [v, .int c] ∧ Rep H (flsD F) v ∧ F.length ≤ 1000 ∧ ∀ H', Same H H' → Q (.int (startOf F c)) H'
theorem okFirstP (T : Top K w mg) : Ok P w K mg base CX0 1 "first_row_papers" ["floats", "ceiling"] spFirstP := by
  have m_max := T.m_max
  refine mkOk T.f_first_row_papers scFirstRowPapers (fun vs H Q E h => ?_) (fun f cdv A outer s H vs Q E hr h => ?_)
  · obtain ⟨_, _, _, rfl, _⟩ := h
    rfl
  · obtain ⟨v, F, c, rfl, hF, hn, q⟩ := h
    refine ⟨_, pss_one (ps_ret (pe_ifExp (pt_cmpR (op_eqE hr.units0) (pv 0) (pe_lst (pa_nil)) (nomark _)) (pv 1) (pe_callB (call_max2 rfl) (by rfl) m_max (by decide +kernel) (pa_cons (pv 1) (pa_cons (pe_ix ix_tup (pe_ix ix_list (pv 0) (pe_un un_neg (pe_int)) (fun _ _ => rfl)) (pe_int) (fun _ _ => rfl)) pa_nil))))), ?_⟩
    (try simp only [cx_K, cx_w, rIn, rMulS, CwR.tReplC, tM1, tBM0, rPop, rExtend, rReverse, rLenS, rEqE, rNeE, rSetL, rIntI, rIntB, tBM, rAppend, rIxL, rIxT, rCat, rSlL, rSlS, gTup, tYes, wipe, tSeq, tAsg, tIfS, tRet, tRetN, tDrop, tNext, tBreak, tCont, tNever, tAug, ipI, tPar, tPar3, gName, gCons, gNil, gSub, tVar, tC, tOp, tUn, tIf, tAndV, tOrV, tNotV, tAnd, tOr, tNot, L2.tB, tTest, tCmp, tChain, tCB, tCons, tNil, tCall, tTup, tLst, tSl, tPart, tNoPart, rI, rI0, rU, rEq, rNe, scal_ii, scal_ss, scal_bb, scal_nn, scal_is, scal_si, rIxS, S_len, S_cps, S_inj, L2.start, List.map_cons, List.map_nil, List.cons_append, List.nil_append, List.append_nil, List.getElem?_cons_zero, List.getElem?_cons_succ, List.set_cons_zero, List.set_cons_succ, List.length_cons, List.length_nil, Nat.reduceAdd, Nat.reduceSub, List.replicate_succ, List.replicate_zero, Option.some.injEq, V.int.injEq, V.str.injEq, V.bl.injEq, V.ref.injEq, List.cons.injEq, and_true, true_and, exists_eq_left, exists_eq_left', exists_and_left, exists_eq, exists_eq', decide_eq_true_eq, Bool.not_eq_true', decide_eq_false_iff_not, Bool.false_eq_true, if_false, if_true, reduceIte, ite_self, CMul, CPow, CDiv])
    obtain ⟨a, xs, rfl, ha, hR⟩ := hF
    have hln := hR.len2
    refine ⟨by decide, fun p hp => ?_⟩
    have s1 : Same H (upd H p (.lst [])) := Same.new hp
    have ha1 := s1 _ _ ha
    refine ⟨a, rfl, xs, SqL.of ha1, SqL.of upd_same, ?_⟩
    cases hF : F.getLast? with
    | none =>
      have hE : F = [] := List.getLast?_eq_none_iff.mp hF
      subst hE
      have hx : xs = [] := List.eq_nil_of_length_eq_zero hln
      subst hx
      exact ite2 (fun _ => q _ s1) (fun h => absurd rfl h)
    | some f =>
      rw [List.getLast?_eq_getElem?] at hF
      have hlt := (List.getElem?_eq_some_iff.mp hF).1
      obtain ⟨t, e, et⟩ := fl_at hR hF
      have hm : atI xs (-1) = some (.ref t) := by
        rw [← e, ← hln]
        unfold atI ixN
        rw [if_neg (by omega), if_pos (by omega)]
        show xs[_]? = _
        congr 1
        omega
      have hxe : xs.isEmpty = false := by
        cases xs with
        | nil => rw [List.length_nil] at hln; omega
        | cons => rfl
      refine ite2 (fun h => by rw [hxe] at h; cases h) (fun _ => ⟨a, rfl, xs, SqL.of ha1, _, hm, _, rfl, _, SqT.of (s1 _ _ et), _, at_nat (i := 3) rfl, _, _, ⟨rfl, rfl⟩, ?_⟩)
      have hs : startOf F c = max c f.t := by
        unfold startOf
        rw [List.getLast?_eq_getElem?, hF]
      have h2 := q _ s1
      rw [hs, Int.max_def] at h2
      have : (if c ≤ f.t then f.t else c) = if f.t > c then f.t else c := by
        split <;> split <;> omega
      rw [this] at h2
      exact h2
end
end K92


namespace K92
open PySem PySem.Spec PyProof.Rows L2 KB
section
variable {P : Program} {w : World} {K : PySem.W.Frag} {mg : Str → Option Value} {base : Heap}
theorem pt_ifExp {X : Cx} {a b c : Expr} {pos} {tA tB' tC' : TT} (hc : PT X c tC') (ha : PT X a tA) (hb : PT X b tB') : PT X (.IfExp c a b pos) (fun σ H Q => tC' σ H fun d H1 => if d = true then tA σ H1 Q else tB' σ H1 Q) := by
  refine ⟨fun pins s σ H Q I h => ?_⟩
  refine isTrue_IfExp (thn (hc.run pins s σ H _ I h) fun d s1 ⟨H1, I1, q1⟩ => ?_)
  cases d with
  | true => exact ha.run pins s1 σ H1 Q I1 q1
  | false => exact hb.run pins s1 σ H1 Q I1 q1
theorem for_enum {K : PySem.W.Frag} {a : Addr} {xs : List V} {g : TG} {tb : TS} {D : Ends} {σ : L2.St} {H : Hp} (Pv : Nat → L2.St → Hp → Prop) (h0 : Pv 0 σ H) (hl : ∀ i σ H, i ≤ xs.length → Pv i σ H → SqL K H a xs)
    (hs : ∀ i x σ H T, xs[i]? = some x → H T = none → Pv i σ H → g (.ref T) σ (upd H T (.tup [.int (i : Nat), x])) fun σ2 H2 => tb { D with nx := Pv (i + 1), ct := Pv (i + 1), bk := D.nx } σ2 H2) (hd : ∀ σ H, Pv xs.length σ H → D.nx σ H) :
    ∃ W : Nat → Nat → L2.St → Hp → Prop, (∃ m, W 0 m σ H) ∧ ∀ i m σ H, W i m σ H →
      ((Ite K a).stop i H ∧ D.nx σ H) ∨ ((Ite K a).go i H ∧ ∃ N : L2.St → Hp → Prop, (∀ σ' H', N σ' H' → ∃ m', m' < m ∧ W (i + 1) m' σ' H') ∧ ∀ x H', (Ite K a).yld i H x H' → g x σ H' fun σ2 H2 => tb { D with nx := N, ct := N, bk := D.nx } σ2 H2) := by
  refine ⟨fun i m σ H => m = xs.length - i ∧ i ≤ xs.length ∧ Pv i σ H, ⟨xs.length, by simp, Nat.zero_le _, h0⟩, ?_⟩
  rintro i m σ H ⟨rfl, hi, p⟩
  have q := hl i σ H hi p
  by_cases hlt : i < xs.length
  · refine .inr ⟨⟨xs, xs[i], q, by simp [hlt]⟩, Pv (i + 1), fun σ' H' p' => ⟨xs.length - (i + 1), by omega, rfl, hlt, p'⟩, fun x H' y => ?_⟩
    obtain ⟨T, z, rfl, hT, rfl, y⟩ := y
    exact hs i z σ H T (y xs q) hT p
  · have e : i = xs.length := by omega
    subst e
    exact .inl ⟨⟨xs, q, Nat.le_refl _⟩, hd σ H p⟩
def noV : Option Nat → V
  | none => .non
  | some n => .int (n : Nat)
def bestK (s : Option Nat × Option Nat) : List (Key × V) := [(.inr (S (sideT true)), noV s.1), (.inr (S (sideT false)), noV s.2)]
def sideOf (f : Fl) (s : Option Nat × Option Nat) : Option Nat := if f.left then s.1 else s.2
def setSide (f : Fl) (s : Option Nat × Option Nat) (n : Nat) : Option Nat × Option Nat := if f.left then (some n, s.2) else (s.1, some n)
def beats (F : List Fl) (f : Fl) (o : Option Nat) : Bool := match o with
  | none => true
  | some k => match F[k]? with
    | some g => if f.left then decide (g.r < f.r) else decide (f.l < g.l)
    | none => true
def tStep (F : List Fl) (width row : Int) (s : Option Nat × Option Nat) (n : Nat) (f : Fl) : Option Nat × Option Nat :=
  if f.t ≤ row ∧ row < f.b ∧ takes f width = true ∧ beats F f (sideOf f s) = true then setSide f s n else s
def tightTo (F : List Fl) (width row : Int) : Nat → Option Nat × Option Nat
  | 0 => (none, none)
  | n + 1 => match F[n]? with
    | some f => tStep F width row (tightTo F width row n) n f
    | none => tightTo F width row n
def tightOf (F : List Fl) (width row : Int) : Option Nat × Option Nat := tightTo F width row F.length
theorem best_val (f : Fl) (s : Option Nat × Option Nat) : valV (bestK s) (.inr (S (sideT f.left))) = some (noV (sideOf f s)) := by
  obtain ⟨l, _, _, _, _⟩ := f
  cases l <;> rfl
theorem best_put (f : Fl) (s : Option Nat × Option Nat) (n : Nat) : putK (bestK s) (.inr (S (sideT f.left))) (.int (n : Nat)) = bestK (setSide f s n) := by
  obtain ⟨l, _, _, _, _⟩ := f
  cases l <;> rfl
theorem tight_lt (F : List Fl) (width row : Int) : ∀ n, n ≤ F.length → (∀ k, (tightTo F width row n).1 = some k → k < n) ∧ ∀ k, (tightTo F width row n).2 = some k → k < n
  | 0, _ => And.intro (fun k (h : (none : Option Nat) = some k) => nomatch h) (fun k (h : (none : Option Nat) = some k) => nomatch h)
  | n + 1, h => by
    obtain ⟨h1, h2⟩ := tight_lt F width row n (by omega)
    have h1' : ∀ k, (tightTo F width row n).1 = some k → k < n + 1 := fun k h => by have := h1 k h; omega
    have h2' : ∀ k, (tightTo F width row n).2 = some k → k < n + 1 := fun k h => by have := h2 k h; omega
    rw [tightTo, List.getElem?_eq_getElem (show n < F.length by omega)]
    show (∀ k, (tStep F width row (tightTo F width row n) n F[n]).1 = some k → k < n + 1) ∧ ∀ k, (tStep F width row (tightTo F width row n) n F[n]).2 = some k → k < n + 1
    unfold tStep setSide
    split
    · split
      · exact ⟨fun k h => by have := Option.some.inj h; omega, h2'⟩
      · exact ⟨h1', fun k h => by have := Option.some.inj h; omega⟩
    · exact ⟨h1', h2'⟩
theorem side_left {b : Bool} (h : V.str (S (sideT b)) = V.str (Str.ofString "left")) : b = true := by
  cases b with
  | true => rfl
  | false => exact absurd (V.str.inj h) (by decide)
theorem side_right {b : Bool} (h : ¬ V.str (S (sideT b)) = V.str (Str.ofString "left")) : b = false := by
  cases b with
  | false => rfl
  | true => exact absurd rfl h
def spTight : Sp := fun vs H Q _ => ∃ v F width row, vs = [v, .int width, .int row] ∧ Rep H (flsD F) v ∧ F.length ≤ 1000 ∧
  ∀ t H', Same H H' → H t = none → H' t = some (.tup [noV (tightOf F width row).1, noV (tightOf F width row).2]) → Q (.ref t) H'
theorem okTight (T : Top K w mg) : Ok P w K mg base CX0 2 "tightest" ["floats", "width", "row"] spTight := by
  have m_enumerate := T.m_enumerate
  have GLeavesLess : Ok P w K mg base CX0 1 "leaves_less" ["one", "width"] spLess := okLess T
  refine mkOk T.f_tightest scTightest (fun vs H Q E h => ?_) (fun f cdv A outer s H vs Q E hr h => ?_)
  · obtain ⟨_, _, _, _, rfl, _⟩ := h
    rfl
  · obtain ⟨v, F, width, row, rfl, hF, hn, q⟩ := h
    refine ⟨_, pss_cons (ps_set (i := 3) scTightest.nd rfl (Or.inl rfl) (pe_disp (pps_cons (pe_str) (pe_non) (pps_cons (pe_str) (pe_non) (pps_nil))) (by rfl) (by rfl) (fun z => by cases z) (by decide)))
  (pss_cons (ps_for PassesOwn.never rfl (pi_enum (by rfl) m_enumerate (pa_cons (pv 0) pa_nil)) (pg_tup (n := 2) rfl (pgs_cons (pg_name (i := 4) scTightest.nd rfl (Or.inl rfl)) (pgs_cons (pg_name (i := 5) scTightest.nd rfl (Or.inl rfl)) pgs_nil)))
  (pss_cons (ps_asg (pv 5) (pg_tup (n := 5) rfl (pgs_cons (pg_name (i := 6) scTightest.nd rfl (Or.inl rfl)) (pgs_cons (pg_name (i := 7) scTightest.nd rfl (Or.inl rfl)) (pgs_cons (pg_name (i := 8) scTightest.nd rfl (Or.inl rfl)) (pgs_cons (pg_name (i := 9) scTightest.nd rfl (Or.inl rfl)) (pgs_cons (pg_name (i := 10) scTightest.nd rfl (Or.inl rfl)) pgs_nil)))))))
  (pss_one (ps_if (PW.pt (pw_and (pt_chain op_le op_lt (pv 9) (pv 2) (pv 10)) (pw_and1 (pt_val (pcall GLeavesLess (hr.mono (by decide)) (by rfl) pass0 (pa_cons (pv 5) (pa_cons (pv 1) pa_nil)))))))
  (pss_cons (ps_set (i := 11) scTightest.nd rfl (Or.inl rfl) (pe_dget (hu_of hr) (pv 3) (pv 6) (fun _ _ => rfl)))
  (pss_one (ps_if (PW.pt (pw_or (pt_cmpR op_isN (pv 11) (pe_non) (nomark _)) (pw_or1 (pt_ifExp (pt_cmpR op_eq (pv 6) (pe_str) (nomark _)) (pt_cmpR op_gt (pv 8) (pe_ix ix_tup (pe_ix ix_list (pv 0) (pv 11) (fun _ _ => rfl)) (pe_int) (fun _ _ => rfl)) (nomark _)) (pt_cmpR op_lt (pv 7) (pe_ix ix_tup (pe_ix ix_list (pv 0) (pv 11) (fun _ _ => rfl)) (pe_int) (fun _ _ => rfl)) (nomark _))))))
  (pss_one (ps_dput (hu_of hr) (pv 3) (pv 6) (pv 4) rfl))
  (pss_nil))))
  (pss_nil)))))
  (pss_one (ps_ret (pe_tup (pa_cons (pe_dget (hu_of hr) (pv 3) (pe_str) (fun _ _ => rfl)) (pa_cons (pe_dget (hu_of hr) (pv 3) (pe_str) (fun _ _ => rfl)) pa_nil)))))), ?_⟩
    (try simp only [tDisp, tPairs, tDGet, tDNotIn, sDPut, cx_K, cx_w, rIn, rMulS, CwR.tReplC, tM1, tBM0, rPop, rExtend, rReverse, rLenS, rEqE, rNeE, rSetL, rIntI, rIntB, tBM, rAppend, rIxL, rIxT, rCat, rSlL, rSlS, gTup, tYes, wipe, tSeq, tAsg, tIfS, tRet, tRetN, tDrop, tNext, tBreak, tCont, tNever, tAug, ipI, tPar, tPar3, gName, gCons, gNil, gSub, tVar, tC, tOp, tUn, tIf, tAndV, tOrV, tNotV, tAnd, tOr, tNot, L2.tB, tTest, tCmp, tChain, tCB, tCons, tNil, tCall, tTup, tLst, tSl, tPart, tNoPart, rI, rI0, rU, rEq, rNe, scal_ii, scal_ss, scal_bb, scal_nn, scal_is, scal_si, rIxS, S_len, S_cps, S_inj, L2.start, List.map_cons, List.map_nil, List.cons_append, List.nil_append, List.append_nil, List.getElem?_cons_zero, List.getElem?_cons_succ, List.set_cons_zero, List.set_cons_succ, List.length_cons, List.length_nil, Nat.reduceAdd, Nat.reduceSub, List.replicate_succ, List.replicate_zero, Option.some.injEq, V.int.injEq, V.str.injEq, V.bl.injEq, V.ref.injEq, List.cons.injEq, and_true, true_and, exists_eq_left, exists_eq_left', exists_and_left, exists_eq, exists_eq', decide_eq_true_eq, Bool.not_eq_true', decide_eq_false_iff_not, Bool.false_eq_true, if_false, if_true, reduceIte, ite_self, CMul, CPow, CDiv])
    obtain ⟨a, xs, rfl, ha, hR⟩ := hF
    have hln := hR.len2
    intro p hp
    refine ⟨upd_same, bestK (none, none), rfl, by decide, ?_⟩
    rw [upd_upd, show mergeK [] (bestK (none, none)) = bestK (none, none) from rfl]
    have s1 : Same H (upd H p (.dK (bestK (none, none)))) := Same.new hp
    (try simp only [tDisp, tPairs, tDGet, tDNotIn, sDPut, cx_K, cx_w, rIn, rMulS, CwR.tReplC, tM1, tBM0, rPop, rExtend, rReverse, rLenS, rEqE, rNeE, rSetL, rIntI, rIntB, tBM, rAppend, rIxL, rIxT, rCat, rSlL, rSlS, gTup, tYes, wipe, tSeq, tAsg, tIfS, tRet, tRetN, tDrop, tNext, tBreak, tCont, tNever, tAug, ipI, tPar, tPar3, gName, gCons, gNil, gSub, tVar, tC, tOp, tUn, tIf, tAndV, tOrV, tNotV, tAnd, tOr, tNot, L2.tB, tTest, tCmp, tChain, tCB, tCons, tNil, tCall, tTup, tLst, tSl, tPart, tNoPart, rI, rI0, rU, rEq, rNe, scal_ii, scal_ss, scal_bb, scal_nn, scal_is, scal_si, rIxS, S_len, S_cps, S_inj, L2.start, List.map_cons, List.map_nil, List.cons_append, List.nil_append, List.append_nil, List.getElem?_cons_zero, List.getElem?_cons_succ, List.set_cons_zero, List.set_cons_succ, List.length_cons, List.length_nil, Nat.reduceAdd, Nat.reduceSub, List.replicate_succ, List.replicate_zero, Option.some.injEq, V.int.injEq, V.str.injEq, V.bl.injEq, V.ref.injEq, List.cons.injEq, and_true, true_and, exists_eq_left, exists_eq_left', exists_and_left, exists_eq, exists_eq', decide_eq_true_eq, Bool.not_eq_true', decide_eq_false_iff_not, Bool.false_eq_true, if_false, if_true, reduceIte, ite_self, CMul, CPow, CDiv])
    refine ⟨.ref a, rfl, a, xs, rfl, SqL.of (s1 _ _ ha), for_enum (xs := xs) (fun i σ H2 => ∃ e4 e5 e6 e7 e8 e9 e10 e11, σ = [some (.ref a), some (.int width), some (.int row), some (.ref p), e4, e5, e6, e7, e8, e9, e10, e11] ∧ Same H H2 ∧ H2 p = some (.dK (bestK (tightTo F width row i)))) ⟨_, _, _, _, _, _, _, _, rfl, s1, upd_same⟩ (fun i σ H2 _ h => ?_) (fun i x σ H2 T2 hx hT2 h => ?_) (fun σ H2 h => ?_)⟩
    · obtain ⟨_, _, _, _, _, _, _, _, _, s2, _⟩ := h
      exact SqL.of (s2 _ _ ha)
    · obtain ⟨e4, e5, e6, e7, e8, e9, e10, e11, rfl, s2, eb⟩ := h
      have hi : i < F.length := by
        have := (List.getElem?_eq_some_iff.mp hx).1
        omega
      have hf : F[i]? = some F[i] := List.getElem?_eq_getElem hi
      obtain ⟨t, e, et⟩ := fl_at hR hf
      rw [hx] at e
      have e := Option.some.inj e
      subst e
      have s3 : Same H2 (upd H2 T2 (.tup [.int (i : Nat), .ref t])) := Same.new hT2
      have et2 := s3 _ _ (s2 _ _ et)
      have eb2 := s3 _ _ eb
      generalize hg : F[i] = g at *
      (try simp only [tDisp, tPairs, tDGet, tDNotIn, sDPut, cx_K, cx_w, rIn, rMulS, CwR.tReplC, tM1, tBM0, rPop, rExtend, rReverse, rLenS, rEqE, rNeE, rSetL, rIntI, rIntB, tBM, rAppend, rIxL, rIxT, rCat, rSlL, rSlS, gTup, tYes, wipe, tSeq, tAsg, tIfS, tRet, tRetN, tDrop, tNext, tBreak, tCont, tNever, tAug, ipI, tPar, tPar3, gName, gCons, gNil, gSub, tVar, tC, tOp, tUn, tIf, tAndV, tOrV, tNotV, tAnd, tOr, tNot, L2.tB, tTest, tCmp, tChain, tCB, tCons, tNil, tCall, tTup, tLst, tSl, tPart, tNoPart, rI, rI0, rU, rEq, rNe, scal_ii, scal_ss, scal_bb, scal_nn, scal_is, scal_si, rIxS, S_len, S_cps, S_inj, L2.start, List.map_cons, List.map_nil, List.cons_append, List.nil_append, List.append_nil, List.getElem?_cons_zero, List.getElem?_cons_succ, List.set_cons_zero, List.set_cons_succ, List.length_cons, List.length_nil, Nat.reduceAdd, Nat.reduceSub, List.replicate_succ, List.replicate_zero, Option.some.injEq, V.int.injEq, V.str.injEq, V.bl.injEq, V.ref.injEq, List.cons.injEq, and_true, true_and, exists_eq_left, exists_eq_left', exists_and_left, exists_eq, exists_eq', decide_eq_true_eq, Bool.not_eq_true', decide_eq_false_iff_not, Bool.false_eq_true, if_false, if_true, reduceIte, ite_self, CMul, CPow, CDiv])
      refine ⟨_, SqT.of upd_same, rfl, _, _, rfl, _, _, rfl, rfl, t, rfl, _, SqT.of et2, rfl, _, _, rfl, _, _, rfl, _, _, rfl, _, _, rfl, _, _, rfl, rfl, ?_⟩
      obtain ⟨lt1, lt2⟩ := tight_lt F width row i (by omega)
      have hstep : tightTo F width row (i + 1) = tStep F width row (tightTo F width row i) i g := by
        rw [tightTo, hf]
      generalize hs0 : tightTo F width row i = st at *
      have hgo : ∀ {c : Prop}, c → c := fun h => h
      have put : DPut (upd H2 T2 (.tup [.int (i : Nat), .ref t])) p (.str (S (sideT g.left))) (.int (i : Nat)) (upd (upd H2 T2 (.tup [.int (i : Nat), .ref t])) p (.dK (bestK (setSide g st i)))) := by
        rw [← best_put]
        exact DPut.k (k := .inr (S (sideT g.left))) eb2 (show 2 < sizeLine by decide)
      have s4 := (s2.trans s3).mut hp (o := .dK (bestK (setSide g st i)))
      refine ⟨_, rfl, ite2 (fun h1 => ⟨_, rfl, ite2 (fun h2 => ⟨_, g, width, rfl, ?_, _, rfl, ite2 (fun h3 => ⟨noV (sideOf g st), ?_, ?_⟩) (fun h3 => ?_)⟩) (fun h2 => ?_)⟩) (fun h1 => ?_)⟩
      · obtain ⟨d, hd, hr1⟩ := hR.get hx
        rw [List.getElem?_map, hf] at hd
        have hd : flD g = d := Option.some.inj hd
        subst hd
        exact hr1.mono (s2.trans s3)
      · rw [← best_val]
        exact DGet.k (k := .inr (S (sideT g.left))) eb2
      · have take : beats F g (sideOf g st) = true → bestK (setSide g st i) = bestK (tightTo F width row (i + 1)) := fun hb => by
          rw [hstep, tStep, if_pos ⟨h1, h2, h3, hb⟩]
        have skip : ¬ beats F g (sideOf g st) = true → bestK st = bestK (tightTo F width row (i + 1)) := fun hb => by
          rw [hstep, tStep, if_neg (fun z => hb z.2.2.2)]
        have lt3 : ∀ k, sideOf g st = some k → k < F.length := fun k hk => by
          unfold sideOf at hk
          split at hk
          · have := lt1 k hk; omega
          · have := lt2 k hk; omega
        cases ho : sideOf g st with
        | none =>
          refine ite2 (fun _ => ?_) (fun z => absurd rfl z)
          (try simp only [tDisp, tPairs, tDGet, tDNotIn, sDPut, cx_K, cx_w, rIn, rMulS, CwR.tReplC, tM1, tBM0, rPop, rExtend, rReverse, rLenS, rEqE, rNeE, rSetL, rIntI, rIntB, tBM, rAppend, rIxL, rIxT, rCat, rSlL, rSlS, gTup, tYes, wipe, tSeq, tAsg, tIfS, tRet, tRetN, tDrop, tNext, tBreak, tCont, tNever, tAug, ipI, tPar, tPar3, gName, gCons, gNil, gSub, tVar, tC, tOp, tUn, tIf, tAndV, tOrV, tNotV, tAnd, tOr, tNot, L2.tB, tTest, tCmp, tChain, tCB, tCons, tNil, tCall, tTup, tLst, tSl, tPart, tNoPart, rI, rI0, rU, rEq, rNe, scal_ii, scal_ss, scal_bb, scal_nn, scal_is, scal_si, rIxS, S_len, S_cps, S_inj, L2.start, List.map_cons, List.map_nil, List.cons_append, List.nil_append, List.append_nil, List.getElem?_cons_zero, List.getElem?_cons_succ, List.set_cons_zero, List.set_cons_succ, List.length_cons, List.length_nil, Nat.reduceAdd, Nat.reduceSub, List.replicate_succ, List.replicate_zero, Option.some.injEq, V.int.injEq, V.str.injEq, V.bl.injEq, V.ref.injEq, List.cons.injEq, and_true, true_and, exists_eq_left, exists_eq_left', exists_and_left, exists_eq, exists_eq', decide_eq_true_eq, Bool.not_eq_true', decide_eq_false_iff_not, Bool.false_eq_true, if_false, if_true, reduceIte, ite_self, CMul, CPow, CDiv])
          exact ⟨_, put, _, _, _, _, _, _, _, _, ⟨rfl, rfl, rfl, rfl, rfl, rfl, rfl, rfl⟩, s4, by rw [upd_same, take (by rw [ho]; rfl)]⟩
        | some k =>
          refine ite2 (fun z => nomatch z) (fun _ => ⟨rfl, ?_⟩)
          have hkl := lt3 k ho
          obtain ⟨t2, e2, et3⟩ := fl_at hR (List.getElem?_eq_getElem (lt3 k ho))
          have sm := s2.trans s3
          refine ite2 (fun hl => ⟨xs, (k : Int), rfl, SqL.of (sm _ _ ha), .ref t2, at_nat e2, t2, rfl, _, SqT.of (sm _ _ et3), _, at_nat (i := 2) rfl, _, rfl, _, rfl, ite2 (fun hb => ?_) (fun hb => ?_)⟩) (fun hl => ⟨xs, (k : Int), rfl, SqL.of (sm _ _ ha), .ref t2, at_nat e2, t2, rfl, _, SqT.of (sm _ _ et3), _, at_nat (i := 1) rfl, _, rfl, _, rfl, ite2 (fun hb => ?_) (fun hb => ?_)⟩)
          · (try simp only [tDisp, tPairs, tDGet, tDNotIn, sDPut, cx_K, cx_w, rIn, rMulS, CwR.tReplC, tM1, tBM0, rPop, rExtend, rReverse, rLenS, rEqE, rNeE, rSetL, rIntI, rIntB, tBM, rAppend, rIxL, rIxT, rCat, rSlL, rSlS, gTup, tYes, wipe, tSeq, tAsg, tIfS, tRet, tRetN, tDrop, tNext, tBreak, tCont, tNever, tAug, ipI, tPar, tPar3, gName, gCons, gNil, gSub, tVar, tC, tOp, tUn, tIf, tAndV, tOrV, tNotV, tAnd, tOr, tNot, L2.tB, tTest, tCmp, tChain, tCB, tCons, tNil, tCall, tTup, tLst, tSl, tPart, tNoPart, rI, rI0, rU, rEq, rNe, scal_ii, scal_ss, scal_bb, scal_nn, scal_is, scal_si, rIxS, S_len, S_cps, S_inj, L2.start, List.map_cons, List.map_nil, List.cons_append, List.nil_append, List.append_nil, List.getElem?_cons_zero, List.getElem?_cons_succ, List.set_cons_zero, List.set_cons_succ, List.length_cons, List.length_nil, Nat.reduceAdd, Nat.reduceSub, List.replicate_succ, List.replicate_zero, Option.some.injEq, V.int.injEq, V.str.injEq, V.bl.injEq, V.ref.injEq, List.cons.injEq, and_true, true_and, exists_eq_left, exists_eq_left', exists_and_left, exists_eq, exists_eq', decide_eq_true_eq, Bool.not_eq_true', decide_eq_false_iff_not, Bool.false_eq_true, if_false, if_true, reduceIte, ite_self, CMul, CPow, CDiv])
            refine ⟨_, put, _, _, _, _, _, _, _, _, ⟨rfl, rfl, rfl, rfl, rfl, rfl, rfl, rfl⟩, s4, ?_⟩
            rw [upd_same, take]
            rw [ho, beats, List.getElem?_eq_getElem (lt3 k ho)]
            show (if g.left = true then decide (F[k].r < g.r) else decide (g.l < F[k].l)) = true
            rw [if_pos (side_left hl), decide_eq_true hb]
          · refine ⟨_, _, _, _, _, _, _, _, ⟨rfl, rfl, rfl, rfl, rfl, rfl, rfl, rfl⟩, sm, ?_⟩
            rw [← skip]
            · exact eb2
            · rw [ho, beats, List.getElem?_eq_getElem (lt3 k ho)]
              show ¬ (if g.left = true then decide (F[k].r < g.r) else decide (g.l < F[k].l)) = true
              rw [if_pos (side_left hl), decide_eq_false hb]
              exact Bool.false_ne_true
          · (try simp only [tDisp, tPairs, tDGet, tDNotIn, sDPut, cx_K, cx_w, rIn, rMulS, CwR.tReplC, tM1, tBM0, rPop, rExtend, rReverse, rLenS, rEqE, rNeE, rSetL, rIntI, rIntB, tBM, rAppend, rIxL, rIxT, rCat, rSlL, rSlS, gTup, tYes, wipe, tSeq, tAsg, tIfS, tRet, tRetN, tDrop, tNext, tBreak, tCont, tNever, tAug, ipI, tPar, tPar3, gName, gCons, gNil, gSub, tVar, tC, tOp, tUn, tIf, tAndV, tOrV, tNotV, tAnd, tOr, tNot, L2.tB, tTest, tCmp, tChain, tCB, tCons, tNil, tCall, tTup, tLst, tSl, tPart, tNoPart, rI, rI0, rU, rEq, rNe, scal_ii, scal_ss, scal_bb, scal_nn, scal_is, scal_si, rIxS, S_len, S_cps, S_inj, L2.start, List.map_cons, List.map_nil, List.cons_append, List.nil_append, List.append_nil, List.getElem?_cons_zero, List.getElem?_cons_succ, List.set_cons_zero, List.set_cons_succ, List.length_cons, List.length_nil, Nat.reduceAdd, Nat.reduceSub, List.replicate_succ, List.replicate_zero, Option.some.injEq, V.int.injEq, V.str.injEq, V.bl.injEq, V.ref.injEq, List.cons.injEq, and_true, true_and, exists_eq_left, exists_eq_left', exists_and_left, exists_eq, exists_eq', decide_eq_true_eq, Bool.not_eq_true', decide_eq_false_iff_not, Bool.false_eq_true, if_false, if_true, reduceIte, ite_self, CMul, CPow, CDiv])
            refine ⟨_, put, _, _, _, _, _, _, _, _, ⟨rfl, rfl, rfl, rfl, rfl, rfl, rfl, rfl⟩, s4, ?_⟩
            rw [upd_same, take]
            rw [ho, beats, List.getElem?_eq_getElem (lt3 k ho)]
            show (if g.left = true then decide (F[k].r < g.r) else decide (g.l < F[k].l)) = true
            rw [if_neg (by rw [side_right hl]; exact Bool.false_ne_true), decide_eq_true hb]
          · refine ⟨_, _, _, _, _, _, _, _, ⟨rfl, rfl, rfl, rfl, rfl, rfl, rfl, rfl⟩, sm, ?_⟩
            rw [← skip]
            · exact eb2
            · rw [ho, beats, List.getElem?_eq_getElem (lt3 k ho)]
              show ¬ (if g.left = true then decide (F[k].r < g.r) else decide (g.l < F[k].l)) = true
              rw [if_neg (by rw [side_right hl]; exact Bool.false_ne_true), decide_eq_false hb]
              exact Bool.false_ne_true
      · refine ⟨_, _, _, _, _, _, _, _, ⟨rfl, rfl, rfl, rfl, rfl, rfl, rfl, rfl⟩, s2.trans s3, ?_⟩
        rw [hstep, tStep, if_neg (fun z => h3 z.2.2.1)]
        exact eb2
      · refine ⟨_, _, _, _, _, _, _, _, ⟨rfl, rfl, rfl, rfl, rfl, rfl, rfl, rfl⟩, s2.trans s3, ?_⟩
        rw [hstep, tStep, if_neg (fun z => h2 z.2.1)]
        exact eb2
      · refine ⟨_, _, _, _, _, _, _, _, ⟨rfl, rfl, rfl, rfl, rfl, rfl, rfl, rfl⟩, s2.trans s3, ?_⟩
        rw [hstep, tStep, if_neg (fun z => h1 z.1)]
        exact eb2
    · obtain ⟨e4, e5, e6, e7, e8, e9, e10, e11, rfl, s2, eb⟩ := h
      (try simp only [tDisp, tPairs, tDGet, tDNotIn, sDPut, cx_K, cx_w, rIn, rMulS, CwR.tReplC, tM1, tBM0, rPop, rExtend, rReverse, rLenS, rEqE, rNeE, rSetL, rIntI, rIntB, tBM, rAppend, rIxL, rIxT, rCat, rSlL, rSlS, gTup, tYes, wipe, tSeq, tAsg, tIfS, tRet, tRetN, tDrop, tNext, tBreak, tCont, tNever, tAug, ipI, tPar, tPar3, gName, gCons, gNil, gSub, tVar, tC, tOp, tUn, tIf, tAndV, tOrV, tNotV, tAnd, tOr, tNot, L2.tB, tTest, tCmp, tChain, tCB, tCons, tNil, tCall, tTup, tLst, tSl, tPart, tNoPart, rI, rI0, rU, rEq, rNe, scal_ii, scal_ss, scal_bb, scal_nn, scal_is, scal_si, rIxS, S_len, S_cps, S_inj, L2.start, List.map_cons, List.map_nil, List.cons_append, List.nil_append, List.append_nil, List.getElem?_cons_zero, List.getElem?_cons_succ, List.set_cons_zero, List.set_cons_succ, List.length_cons, List.length_nil, Nat.reduceAdd, Nat.reduceSub, List.replicate_succ, List.replicate_zero, Option.some.injEq, V.int.injEq, V.str.injEq, V.bl.injEq, V.ref.injEq, List.cons.injEq, and_true, true_and, exists_eq_left, exists_eq_left', exists_and_left, exists_eq, exists_eq', decide_eq_true_eq, Bool.not_eq_true', decide_eq_false_iff_not, Bool.false_eq_true, if_false, if_true, reduceIte, ite_self, CMul, CPow, CDiv])
      rw [hln] at eb
      exact ⟨_, DGet.k (k := .inr (S (sideT true))) eb, _, DGet.k (k := .inr (S (sideT false))) eb, by decide, fun t ht => q t _ (s2.trans (Same.new ht)) (s2.free ht) upd_same⟩
end
end K92


namespace L2
open PySem PySem.Spec PyProof.Rows
/-- what set() gives before anything is put into it -/
def bareSet (w : World) : Obj where
  cls := .type "set"
  dict := none
  data := .set #[] 0 (.fresh 0 0 (!w.params.followText "set-order"))
def withBare (w : World) (s : Shared) : Shared where
  heap := s.heap.push (bareSet w)
  gens := s.gens
  drawn := s.drawn
  toks := s.toks
  os := s.os
/-- a list of ints at b, told member by member -/
theorem told_at {b : Array Value} {ns : List Int} (q : IntsAre b.toList ns) : b.size = ns.length ∧
    ∀ (i : Nat) (v : Value), b[i]? = some v → ∃ k t, ns[i]? = some k ∧ v = .int k t := by
  have z := IntsAre.length q
  rw [Array.length_toList] at z
  refine ⟨z, fun i v e => ?_⟩
  have lt : i < ns.length := z ▸ (Array.getElem?_eq_some_iff.mp e).1
  rcases PyProof.Rows.IntsAre.int_at q i v (by rw [Array.getElem?_toList, e]) with ⟨t, u⟩
  refine ⟨ns[i], t, List.getElem?_eq_getElem lt, ?_⟩
  subst u
  rw [List.getD_eq_getElem?_getD, List.getElem?_eq_getElem lt, Option.getD_some]
section
variable {P : Program} {w : World} {A : Around} {E : Value → Shared → Prop}
/-- the bare set at a takes up what the list at b holds -/
theorem bare_takes {t : Shared} {a b : Addr} {vs : Array Value} {ns : List Int} {R : Value → Shared → Prop}
    (ca : A.handled = none) (ha : t.heap.get? a = some (bareSet w)) (hb : t.heap.IsList b vs) (ne : b ≠ a) (hv : IntsAre vs.toList ns)
    (few : ns.length + 1 < scanBound)
    (k : ∀ h' tk c, SetR w h' a (fun j => decide (j ∈ ns)) c → c ≤ ns.length → (∀ d o, d ≠ a → t.heap.get? d = some o → h'.get? d = some o) →
      R .none { t with heap := h', toks := tk }) :
    codeAny (model P w) A (.call (.builtin "set.__init__") ⟨[.ref a, .ref b], []⟩) (wants R E) t := by
  obtain ⟨size, told⟩ := told_at hv
  have isS : t.TypeIs (.ref a) "set" := ⟨_, ha, rfl⟩
  apply codeAny_call_builtin F.called_set.init.plain F.entry_set_init
  apply check_set_init_1 isS
  have hb' := hb
  obtain ⟨⟨k1, k2, k3, k4⟩, get, cl, n, dt⟩ := hb
  dsimp only at cl dt
  subst cl dt
  have s1 := F.sub_list_set
  have s2 := F.sub_list_frozenset
  have nd : (Value.type "list" == Value.type "dict") = false := by decide
  unfold Builtin.«set.__init__» noKeywords Builtin.Frozenset.updateFrom
  generalize er : pyIter = it
  wp_walk
  subst er
  have la := Heap.lt_size ha
  have lb := Heap.lt_size get
  apply wpAny_pyIter_list hb'
  apply wpAny_bind
  apply wpAny_runValue
  have out : a ∉ [t.heap.objs.size, b] := fun z => by
    rcases List.mem_cons.mp z with z | z
    · exact Nat.ne_of_lt la z
    · exact ne (List.mem_singleton.mp z).symm
  have fresh : b ≠ t.heap.objs.size := Nat.ne_of_lt lb
  have calm : A.in1.in1.handled = none := by simp [ca]
  apply set_update_ints (Walks.list calm _ b fresh vs).toS a out ns size few told vs.size 0 _ rfl (Nat.zero_le _)
  · exact ⟨⟨_, Heap.get?_push_size _ rfl, rfl, rfl⟩, hb'.push _⟩
  · exact ⟨0, Nat.le_refl 0, setR_new_at (Heap.get?_push_of_some _ ha)⟩
  · rintro ⟨h', g, d, tk, o⟩ c ⟨m1, m2, m3, m4⟩ le fin
    obtain rfl : g = t.gens := m2
    obtain rfl : d = t.drawn := m3
    obtain rfl : o = t.os := m4
    have last := k h' tk c fin (size ▸ le) fun d o' nd e => m1 d o' (fun z => by
        rcases List.mem_cons.mp z with z | z
        · exact nd z
        · exact absurd (List.mem_singleton.mp z) (Nat.ne_of_lt (Heap.lt_size e))) (Heap.get?_push_of_some _ e)
    exact wpAny_pure (wpAny_pure last)
/-- set(xs) of a list of ints: a set of those ints; whatever stood before stands -/
theorem set_of_ints {s : Shared} {b : Addr} {vs : Array Value} (ns : List Int) {R : Value → Shared → Prop}
    (ca : A.handled = none) (hb : s.heap.IsList b vs) (hv : IntsAre vs.toList ns) (few : ns.length + 1 < scanBound)
    (k : ∀ h' tk c, SetR w h' s.heap.objs.size (fun j => decide (j ∈ ns)) c → c ≤ ns.length → (∀ d o, s.heap.get? d = some o → h'.get? d = some o) →
      R (.ref s.heap.objs.size) { s with heap := h', toks := tk }) :
    wpAny (model P w) A (call (.type "set") [.ref b]) R E s := by
  have lb : b < s.heap.objs.size := by
    obtain ⟨o, e, _⟩ := hb
    exact Heap.lt_size e
  have at0 : (withBare w s).heap.get? s.heap.objs.size = some (bareSet w) := Heap.get?_push_size _ rfl
  have isS : (withBare w s).TypeIs (.ref s.heap.objs.size) "set" := ⟨_, at0, rfl⟩
  have filled := bare_takes (A := A.in1) (P := P) (E := E) (R := fun v t => v = .none ∧ R (.ref s.heap.objs.size) t) (by simp [ca]) at0 (hb.push _) (Nat.ne_of_lt lb) hv few
    fun h' tk c r le old => ⟨rfl, k h' tk c r le fun d o e => old d o (Nat.ne_of_lt (Heap.lt_size e)) (Heap.get?_push_of_some _ e)⟩
  have laid : codeAny (model P w) A.in1 (.call (.builtin "set.__new__") ⟨[.type "set", .ref b], []⟩)
      (wants (fun v t => v = .ref s.heap.objs.size ∧ t = withBare w s) E) s := code_set_led1 (.ref b) ⟨rfl, rfl⟩
  obtain ⟨mro, rest, hm⟩ := F.called_set.mro
  obtain ⟨f1, f2, f3, f4⟩ := And.intro F.called_set.made (And.intro F.called_set.sub (And.intro F.called_set.notType F.called_set.canCreate))
  have f5 := F.typeCall_set_1 (.ref b)
  apply wpAny_call
  apply codeAny_of_tree
  show wpAny _ _ (callAny (.type "set") _) _ _ _
  have quiet : (Code.builtin "type.__call__" ⟨[.type "set", .ref b], []⟩).quiet = true := Code.quiet_builtin _ (by decide +kernel)
  refine wpAny_pure ⟨quiet, codeAny_builtin F.entry_type_call ?_⟩
  rw [Around.under_plain (weight_type_call_type "set" [.ref b] []) rfl]
  repeat any_goals first
    | assumption
    | wp_step
  apply codeAny_mono laid
  rintro (e | v) t ht
  · exact ht
  cases v with
  | ret v => ?_
  | _ => exact ht.elim
  obtain ⟨rfl, rfl⟩ := ht
  have ini := F.called_set.init.lookup
  have bind := F.called_set.init.bind (.ref s.heap.objs.size)
  repeat any_goals first
    | assumption
    | wp_step
  apply codeAny_mono filled
  rintro (e | v) t ht
  · exact ht
  cases v with
  | ret v => ?_
  | _ => exact ht.elim
  obtain ⟨rfl, last⟩ := ht
  repeat any_goals first
    | assumption
    | wp_step
end
end L2


namespace L2
open PySem PySem.Spec PyProof.Rows
/-- vs are the members of S, each once, as the numbers ms -/
structure Told (S : Int → Bool) (n : Nat) (vs : List Value) (ms : List Int) : Prop where
  nums : IntsAre vs ms
  once : ms.Nodup
  all : ∀ k, k ∈ ms ↔ S k = true
  many : ms.length = n
/-- nothing that stood in t has gone in u, and nothing was drawn from a generator -/
structure Kept (t u : Shared) : Prop where
  old : ∀ d o, t.heap.get? d = some o → u.heap.get? d = some o
  gens : u.gens = t.gens
  os : u.os = t.os
section
variable {P : Program} {w : World} {A : Around} {E : Value → Shared → Prop}
theorem told_set {t : Shared} {a : Addr} {S : Int → Bool} {n : Nat} {R : List Value → Shared → Prop} (ca : A.handled = none)
    (st : SetR w t.heap a S n) (k : ∀ u vs ms, Kept t u → t.heap.objs.size ≤ u.heap.objs.size → Told S n vs ms → R vs u) :
    wpAny (model P w) A (collect (.ref a)) R E t := by
  rcases st with ⟨ob, es, epoch, tb, is, exact', data, good, once, mem, few, fits, many, rising, led⟩
  apply collect_set ca ⟨ob, is, exact'.1, data⟩ fits few rising led
  intro u vs old more gens os perm
  apply k u vs (vs.map Builtin.Re.reRawOf) ⟨old, gens, os⟩ more
  have keys : (vs.map Builtin.Re.reRawOf).Perm (es.toList.map keyOf) := by
    have p := perm.map Builtin.Re.reRawOf
    rwa [List.map_map] at p
  constructor
  · apply ints_of
    intro v hv
    obtain ⟨x, hx, rfl⟩ := List.mem_map.mp (perm.mem_iff.mp hv)
    obtain ⟨i, tk, e, -⟩ := good x hx
    exact ⟨i, tk, e⟩
  · exact keys.nodup_iff.mpr once
  · intro i
    rw [keys.mem_iff]
    exact (mem i).symm
  · simpa [many] using keys.length_eq
/-- sorted(a), a the set S of n ints: the list of them that rises -/
theorem sorted_setI {t : Shared} {a : Addr} {S : Int → Bool} {n : Nat} {R : Value → Shared → Prop} (st : SetR w t.heap a S n) (ca : A.handled = none) (few : n < 4000)
    (k : ∀ u p (xs : Array Value) (c : Nat) (ms : List Int), Kept t u → t.heap.objs.size ≤ p → u.heap.get? p = some (seqObj "list" xs c) →
      Told S n xs.toList ms → ms.Pairwise (· < ·) → R (.ref p) u) :
    wpAny (model P w) A (call (.builtin "sorted") [.ref a]) R E t := by
  apply Calls.call_function_entry kind_sorted plain_sorted entry_sorted (args_sorted1 _)
  unfold Builtin.«sorted»
  apply wpAny_bind (m := checkCount "sorted" 1 1 _)
  apply wpAny_pure
  apply wpAny_bind
  apply told_set (by simp [ca]) st
  intro u vs ms kept more told
  have short : vs.length ≤ sizeLine := by
    rw [IntsAre.length told.nums, told.many, sizeLine_eq]
    omega
  apply wpAny_bind
  refine wpAny_newList ?_ short
  have at0 : (u.heap.push (seqObj "list" vs.toArray 0)).get? u.heap.objs.size = some (seqObj "list" vs.toArray 0) := by
    exact Heap.get?_push_size _ rfl
  apply wpAny_bind
  apply wpAny_holding
  refine wpAny_call_entry slot_list_sort ⟨_, at0, rfl⟩ entry_list_sort ?_ (args_list_sort _)
  apply SrtO.list_sort_ord SrtO.swo_int at0 short (SrtO.ints_sortable told.nums)
  intro out so sb
  refine ⟨_, rfl, ?_⟩
  rcases SrtO.ints_out told.nums so sb with ⟨nums, perm, le⟩
  rcases sortedHeap_at (vs := vs) (out := out.toArray) at0 with ⟨c, there⟩
  have once := perm.nodup_iff.mpr told.once
  refine wpAny_pure ⟨_, rfl, ?_⟩
  apply k _ _ out.toArray c (out.map SrtO.iv) ?_ more there ⟨nums, once, fun i => perm.mem_iff.trans (told.all i), perm.length_eq.trans told.many⟩ (lt_of_le_nodup _ le once)
  have stays : ∀ d o, t.heap.get? d = some o → (sortedHeap (u.heap.push (seqObj "list" vs.toArray 0)) u.heap.objs.size vs out.toArray).get? d = some o := fun d o e => by
    have e1 := kept.old d o e
    have lt := Heap.lt_size e1
    rw [sortedHeap_old (Nat.ne_of_lt lt)]
    · exact Heap.get?_push_of_some _ e1
    · rw [size_push']
      exact Nat.lt_succ_of_lt (Nat.lt_of_lt_of_le (Heap.lt_size e) more)
  exact ⟨stays, kept.gens, kept.os⟩
end
section
variable {X : Cx}
/-- sorted(found), any number of members -/
def rSortedSI (w : World) : List V → Hp → VK → Prop := fun vs H Q => ∃ (a : Addr) (S : Int → Bool) (n : Nat), vs = [V.ref a] ∧ H a = some (SetO w a S n) ∧ n < 4000 ∧
  ∀ (ns : List Int) (p : Addr), ns.Pairwise (· < ·) → (∀ k : Int, k ∈ ns ↔ S k = true) → ns.length = n → H p = none → Q (.ref p) (upd H p (.lst (ns.map V.int)))
theorem cr_sortedSI (hc : X.calm = true) : CallR X (.builtin "sorted") (rSortedSI X.w) := by
  rintro pins t σ H vs us Q I r ⟨a, S, n, rfl, at', few, q⟩
  rw [Vals.ref1 r]
  apply sorted_setI (setO_get I at') (I.ok.hd hc) few
  intro u p xs c ms kept new there told up
  have free := I.hok.fresh new
  have short : (ms.map V.int).length ≤ sizeLine := by
    rw [List.length_map, told.many, sizeLine_eq]
    omega
  have same : u = { t with heap := u.heap, gens := u.gens, drawn := u.drawn, toks := u.toks } := by
    obtain ⟨_, _, _, _, _⟩ := u
    obtain ⟨_, _, _, _, _⟩ := t
    exact congrArg _ kept.os
  have bare := I.bare
  rw [← kept.gens] at bare
  have next : Inv X pins σ (upd H p (.lst (ms.map V.int))) { t with heap := u.heap, gens := u.gens, drawn := u.drawn, toks := u.toks } :=
    I.call (ch := []) (Un.laid kept.old new free) (I.hok.laid kept.old new ⟨short, _, c, vals_of_ints told.nums, there⟩) bare nofun
  rw [same]
  exact ⟨.ref p, _, next, rfl, q ms p up told.all told.many free⟩
/-- set(xs), xs a list of ints -/
def rSetLI (K : PySem.W.Frag) (w : World) : List V → Hp → VK → Prop := fun vs H Q => ∃ (l : Addr) (ns : List Int), vs = [.ref l] ∧ SqL K H l (ns.map V.int) ∧ ns.length < 4000 ∧
  ∀ p c, H p = none → c ≤ ns.length → Q (.ref p) (upd H p (SetO w p (fun j => decide (j ∈ ns)) c))
theorem cr_setLI (hc : X.calm = true) : CallR X (.type "set") (rSetLI X.K X.w) := by
  rintro pins t σ H vs us Q I r ⟨b, ns, rfl, sq, few, q⟩
  rw [Vals.ref1 r]
  obtain ⟨vs, same, is, -⟩ := I.list sq
  have nums : IntsAre vs.toArray.toList ns := same.ints
  apply set_of_ints ns (I.ok.hd hc) is.isList nums (by unfold scanBound; omega)
  intro h' tk c st le old
  exact ⟨.ref _, _, I.laid (t' := tk) old (Nat.le_refl _) (setO_new st), rfl, q _ c (I.hok.fresh (Nat.le_refl _)) le⟩
end
end L2


open KB
namespace K92
/-! ### the plain law: rows -/
theorem low_spec : ∀ (F : List Fl) (low row : Int), low ≤ lowOf F low row ∧ (∀ f ∈ F, f.t ≤ row → row < f.b → f.left = true → f.r ≤ lowOf F low row) ∧
    (lowOf F low row = low ∨ ∃ f ∈ F, f.t ≤ row ∧ row < f.b ∧ f.left = true ∧ f.r = lowOf F low row)
  | [], low, row => ⟨Int.le_refl _, (fun f h => nomatch h), .inl rfl⟩
  | g :: F, low, row => by
    have e : lowOf (g :: F) low row = lowOf F (if g.t ≤ row ∧ row < g.b ∧ g.left = true then max low g.r else low) row := rfl
    rw [e]
    by_cases c : g.t ≤ row ∧ row < g.b ∧ g.left = true
    · rw [if_pos c]
      obtain ⟨h1, h2, h3⟩ := low_spec F (max low g.r) row
      refine ⟨by omega, fun f hf a b d => ?_, ?_⟩
      · cases hf with
        | head => omega
        | tail _ hf => exact h2 f hf a b d
      · rcases h3 with h | ⟨f, hf, h⟩
        · by_cases hm : g.r ≤ low
          · exact .inl (by omega)
          · exact .inr ⟨g, List.mem_cons_self, c.1, c.2.1, c.2.2, by omega⟩
        · exact .inr ⟨f, List.mem_cons_of_mem _ hf, h⟩
    · rw [if_neg c]
      obtain ⟨h1, h2, h3⟩ := low_spec F low row
      refine ⟨h1, fun f hf a b d => ?_, ?_⟩
      · cases hf with
        | head => exact absurd ⟨a, b, d⟩ c
        | tail _ hf => exact h2 f hf a b d
      · rcases h3 with h | ⟨f, hf, h⟩
        · exact .inl h
        · exact .inr ⟨f, List.mem_cons_of_mem _ hf, h⟩
theorem high_spec : ∀ (F : List Fl) (high row : Int), highOf F high row ≤ high ∧ (∀ f ∈ F, f.t ≤ row → row < f.b → f.left = false → highOf F high row ≤ f.l) ∧
    (highOf F high row = high ∨ ∃ f ∈ F, f.t ≤ row ∧ row < f.b ∧ f.left = false ∧ f.l = highOf F high row)
  | [], low, row => ⟨Int.le_refl _, (fun f h => nomatch h), .inl rfl⟩
  | g :: F, high, row => by
    have e : highOf (g :: F) high row = highOf F (if g.t ≤ row ∧ row < g.b ∧ g.left = false then min high g.l else high) row := rfl
    rw [e]
    by_cases c : g.t ≤ row ∧ row < g.b ∧ g.left = false
    · rw [if_pos c]
      obtain ⟨h1, h2, h3⟩ := high_spec F (min high g.l) row
      refine ⟨by omega, fun f hf a b d => ?_, ?_⟩
      · cases hf with
        | head => omega
        | tail _ hf => exact h2 f hf a b d
      · rcases h3 with h | ⟨f, hf, h⟩
        · by_cases hm : high ≤ g.l
          · exact .inl (by omega)
          · exact .inr ⟨g, List.mem_cons_self, c.1, c.2.1, c.2.2, by omega⟩
        · exact .inr ⟨f, List.mem_cons_of_mem _ hf, h⟩
    · rw [if_neg c]
      obtain ⟨h1, h2, h3⟩ := high_spec F high row
      refine ⟨h1, fun f hf a b d => ?_, ?_⟩
      · cases hf with
        | head => exact absurd ⟨a, b, d⟩ c
        | tail _ hf => exact h2 f hf a b d
      · rcases h3 with h | ⟨f, hf, h⟩
        · exact .inl h
        · exact .inr ⟨f, List.mem_cons_of_mem _ hf, h⟩
/-- floats with the same cover at two rows -/
theorem low_congr : ∀ (F : List Fl) (low r r' : Int), (∀ f ∈ F, (f.t ≤ r ∧ r < f.b) ↔ (f.t ≤ r' ∧ r' < f.b)) → lowOf F low r = lowOf F low r'
  | [], _, _, _, _ => rfl
  | g :: F, low, r, r', h => by
    show lowOf F (if g.t ≤ r ∧ r < g.b ∧ g.left = true then max low g.r else low) r = lowOf F (if g.t ≤ r' ∧ r' < g.b ∧ g.left = true then max low g.r else low) r'
    have hg := h g List.mem_cons_self
    have e : (if g.t ≤ r ∧ r < g.b ∧ g.left = true then max low g.r else low) = (if g.t ≤ r' ∧ r' < g.b ∧ g.left = true then max low g.r else low) := by
      by_cases c : g.t ≤ r ∧ r < g.b
      · have c' := hg.mp c
        by_cases d : g.left = true
        · rw [if_pos ⟨c.1, c.2, d⟩, if_pos ⟨c'.1, c'.2, d⟩]
        · rw [if_neg (fun z => d z.2.2), if_neg (fun z => d z.2.2)]
      · rw [if_neg (fun z => c ⟨z.1, z.2.1⟩), if_neg (fun z => c (hg.mpr ⟨z.1, z.2.1⟩))]
    rw [e]
    exact low_congr F _ r r' fun f hf => h f (List.mem_cons_of_mem _ hf)
theorem high_congr : ∀ (F : List Fl) (high r r' : Int), (∀ f ∈ F, (f.t ≤ r ∧ r < f.b) ↔ (f.t ≤ r' ∧ r' < f.b)) → highOf F high r = highOf F high r'
  | [], _, _, _, _ => rfl
  | g :: F, high, r, r', h => by
    show highOf F (if g.t ≤ r ∧ r < g.b ∧ g.left = false then min high g.l else high) r = highOf F (if g.t ≤ r' ∧ r' < g.b ∧ g.left = false then min high g.l else high) r'
    have hg := h g List.mem_cons_self
    have e : (if g.t ≤ r ∧ r < g.b ∧ g.left = false then min high g.l else high) = (if g.t ≤ r' ∧ r' < g.b ∧ g.left = false then min high g.l else high) := by
      by_cases c : g.t ≤ r ∧ r < g.b
      · have c' := hg.mp c
        by_cases d : g.left = false
        · rw [if_pos ⟨c.1, c.2, d⟩, if_pos ⟨c'.1, c'.2, d⟩]
        · rw [if_neg (fun z => d z.2.2), if_neg (fun z => d z.2.2)]
      · rw [if_neg (fun z => c ⟨z.1, z.2.1⟩), if_neg (fun z => c (hg.mpr ⟨z.1, z.2.1⟩))]
    rw [e]
    exact high_congr F _ r r' fun f hf => h f (List.mem_cons_of_mem _ hf)
theorem low_none : ∀ (F : List Fl) (low r : Int), (∀ f ∈ F, f.b ≤ r) → lowOf F low r = low
  | [], _, _, _ => rfl
  | g :: F, low, r, h => by
    show lowOf F (if g.t ≤ r ∧ r < g.b ∧ g.left = true then max low g.r else low) r = low
    rw [if_neg (fun z => by have := h g List.mem_cons_self; omega)]
    exact low_none F low r fun f hf => h f (List.mem_cons_of_mem _ hf)
theorem high_none : ∀ (F : List Fl) (low r : Int), (∀ f ∈ F, f.b ≤ r) → highOf F low r = low
  | [], _, _, _ => rfl
  | g :: F, low, r, h => by
    show highOf F (if g.t ≤ r ∧ r < g.b ∧ g.left = false then min low g.l else low) r = low
    rw [if_neg (fun z => by have := h g List.mem_cons_self; omega)]
    exact high_none F low r fun f hf => h f (List.mem_cons_of_mem _ hf)
def Tops (F : List Fl) (st : Int) : Prop := ∀ f ∈ F, f.t ≤ st
theorem goes_congr {F : List Fl} {lo hi w st r r' : Int} (T : Tops F st) (h1 : st ≤ r') (h2 : r' ≤ r) (h : ∀ f ∈ F, f.b ≤ r' ∨ r < f.b) : goesIn F lo hi r w = goesIn F lo hi r' w := by
  have c : ∀ f ∈ F, (f.t ≤ r ∧ r < f.b) ↔ (f.t ≤ r' ∧ r' < f.b) := fun f hf => by
    have := T f hf
    rcases h f hf with h | h <;> constructor <;> (rintro ⟨a, b⟩; constructor <;> omega)
  unfold goesIn
  rw [low_congr F lo r r' c, high_congr F hi r r' c]
theorem goes_none {F : List Fl} {lo hi w r : Int} (h : ∀ f ∈ F, f.b ≤ r) : goesIn F lo hi r w = true := by
  unfold goesIn
  rw [low_none F lo r h, high_none F hi r h]
  simp
theorem first_spec (F : List Fl) (lo hi w st : Int) : ∀ L : List Int, L.Pairwise (· ≤ ·) →
    (firstOf F lo hi w st L = st ∧ ∀ x ∈ L, goesIn F lo hi x w = false) ∨
    (firstOf F lo hi w st L ∈ L ∧ goesIn F lo hi (firstOf F lo hi w st L) w = true ∧ ∀ x ∈ L, x < firstOf F lo hi w st L → goesIn F lo hi x w = false)
  | [], _ => .inl ⟨rfl, fun x h => by cases h⟩
  | r :: rs, hp => by
    unfold firstOf
    by_cases h : goesIn F lo hi r w = true
    · rw [if_pos h]
      refine .inr ⟨List.mem_cons_self, h, fun x hx hl => ?_⟩
      cases hx with
      | head => omega
      | tail _ hx => have := List.rel_of_pairwise_cons hp hx; omega
    · rw [if_neg h]
      rcases first_spec F lo hi w st rs hp.of_cons with ⟨a, b⟩ | ⟨a, b, c⟩
      · refine .inl ⟨a, fun x hx => ?_⟩
        cases hx with
        | head => exact Bool.eq_false_iff.mpr h
        | tail _ hx => exact b x hx
      · refine .inr ⟨List.mem_cons_of_mem _ a, b, fun x hx hl => ?_⟩
        cases hx with
        | head => exact Bool.eq_false_iff.mpr h
        | tail _ hx => exact c x hx hl
theorem below : ∀ (L : List Int) (a x : Int), a ≤ x → ∃ y, (y = a ∨ y ∈ L) ∧ y ≤ x ∧ a ≤ y ∧ ∀ z ∈ L, z ≤ x → z ≤ y
  | [], a, x, h => ⟨a, .inl rfl, h, Int.le_refl _, fun z hz => by cases hz⟩
  | b :: L, a, x, h => by
    obtain ⟨y, h1, h2, h3, h4⟩ := below L a x h
    by_cases c : b ≤ x ∧ y ≤ b
    · refine ⟨b, .inr List.mem_cons_self, c.1, by omega, fun z hz hx => ?_⟩
      cases hz with
      | head => exact Int.le_refl _
      | tail _ hz => have := h4 z hz hx; omega
    · refine ⟨y, h1.imp id (List.mem_cons_of_mem _), h2, h3, fun z hz hx => ?_⟩
      cases hz with
      | head => omega
      | tail _ hz => exact h4 z hz hx
theorem above : ∀ (L : List Int) (a : Int), ∃ y, (y = a ∨ y ∈ L) ∧ a ≤ y ∧ ∀ z ∈ L, z ≤ y
  | [], a => ⟨a, .inl rfl, Int.le_refl _, fun z hz => by cases hz⟩
  | b :: L, a => by
    obtain ⟨y, h1, h3, h4⟩ := above L a
    by_cases c : y ≤ b
    · refine ⟨b, .inr List.mem_cons_self, by omega, fun z hz => ?_⟩
      cases hz with
      | head => exact Int.le_refl _
      | tail _ hz => have := h4 z hz; omega
    · refine ⟨y, h1.imp id (List.mem_cons_of_mem _), h3, fun z hz => ?_⟩
      cases hz with
      | head => omega
      | tail _ hz => exact h4 z hz
theorem bots_mem {F : List Fl} {st : Int} {ns : List Int} (B : Bots F st ns) (x : Int) : x ∈ ns ↔ st < x ∧ ∃ f ∈ F, f.b = x := by
  rw [B.1.mem_iff, List.mem_filter, List.mem_map]
  constructor
  · rintro ⟨⟨f, hf, e⟩, h⟩
    exact ⟨of_decide_eq_true h, f, hf, e⟩
  · rintro ⟨h, f, hf, e⟩
    exact ⟨⟨f, hf, e⟩, decide_eq_true h⟩
/-- r is the row at which the float stands -/
structure IsRow (F : List Fl) (lo hi w st r : Int) : Prop where
  ge : st ≤ r
  goes : goesIn F lo hi r w = true
  least : ∀ x, st ≤ x → x < r → goesIn F lo hi x w = false
  bot : r = st ∨ ∃ f ∈ F, f.b = r
theorem row_is {F : List Fl} {lo hi w st : Int} {ns : List Int} (T : Tops F st) (B : Bots F st ns) : IsRow F lo hi w st (firstOf F lo hi w st (st :: ns)) := by
  have hp : (st :: ns).Pairwise (· ≤ ·) := List.pairwise_cons.mpr ⟨fun x hx => by have := ((bots_mem B x).mp hx).1; omega, B.2⟩
  rcases first_spec F lo hi w st (st :: ns) hp with ⟨a, b⟩ | ⟨a, b, c⟩
  · exfalso
    obtain ⟨y, h1, h2, h3⟩ := above ns st
    have hy : y ∈ st :: ns := by
      rcases h1 with rfl | h
      · exact List.mem_cons_self
      · exact List.mem_cons_of_mem _ h
    have := b y hy
    rw [goes_none (fun f hf => ?_)] at this
    · cases this
    · by_cases h : st < f.b
      · exact h3 _ ((bots_mem B _).mpr ⟨h, f, hf, rfl⟩)
      · omega
  · generalize firstOf F lo hi w st (st :: ns) = r at a b c
    refine ⟨?_, b, fun x h1 h2 => ?_, ?_⟩
    · cases a with
      | head => exact Int.le_refl _
      | tail _ h => have := ((bots_mem B r).mp h).1; omega
    · obtain ⟨y, k1, k2, k3, k4⟩ := below ns st x h1
      have hy : y ∈ st :: ns := by
        rcases k1 with rfl | h
        · exact List.mem_cons_self
        · exact List.mem_cons_of_mem _ h
      rw [goes_congr T k3 k2 (fun f hf => ?_)]
      · exact c y hy (by omega)
      · by_cases h : st < f.b
        · by_cases h5 : f.b ≤ x
          · exact .inl (k4 _ ((bots_mem B _).mpr ⟨h, f, hf, rfl⟩) h5)
          · exact .inr (by omega)
        · exact .inl (by omega)
    · cases a with
      | head => exact .inl rfl
      | tail _ h => exact .inr ((bots_mem B r).mp h).2
theorem IsRow.uniq {F : List Fl} {lo hi w st r r' : Int} (a : IsRow F lo hi w st r) (b : IsRow F lo hi w st r') : r = r' := by
  by_cases h : r < r'
  · have := b.least r a.ge h
    rw [a.goes] at this
    cases this
  · by_cases h2 : r' < r
    · have := a.least r' b.ge h2
      rw [b.goes] at this
      cases this
    · omega
/-! ### sorted tops -/
theorem sorted_last : ∀ (F : List Fl), sortedT F = true → ∀ f ∈ F, ∃ g, F.getLast? = some g ∧ f.t ≤ g.t
  | [], _, f, h => by cases h
  | [g], _, f, h => ⟨g, rfl, by
      cases h with
      | head => exact Int.le_refl _
      | tail _ h => cases h⟩
  | a :: g :: F, hs, f, h => by
    unfold sortedT at hs
    rw [Bool.and_eq_true] at hs
    have h1 := of_decide_eq_true hs.1
    cases h with
    | head =>
      obtain ⟨z, e, hz⟩ := sorted_last (g :: F) hs.2 g List.mem_cons_self
      exact ⟨z, by rw [← e]; rfl, by omega⟩
    | tail _ h =>
      obtain ⟨z, e, hz⟩ := sorted_last (g :: F) hs.2 f h
      exact ⟨z, by rw [← e]; rfl, hz⟩
theorem start_ge {F : List Fl} {c : Int} : c ≤ startOf F c := by
  unfold startOf
  split <;> omega
theorem tops_start {F : List Fl} {c : Int} (hs : sortedT F = true) : Tops F (startOf F c) := fun f hf => by
  obtain ⟨g, e, h⟩ := sorted_last F hs f hf
  unfold startOf
  rw [e]
  show f.t ≤ max c g.t
  omega
/-- the law's start: the greatest of the ceiling and the tops -/
def maxT (F : List Fl) (c : Int) : Int := F.foldl (fun x f => max x f.t) c
theorem maxT_spec : ∀ (F : List Fl) (c : Int), c ≤ maxT F c ∧ (∀ f ∈ F, f.t ≤ maxT F c) ∧ (maxT F c = c ∨ ∃ f ∈ F, maxT F c = f.t)
  | [], c => ⟨Int.le_refl _, (fun f h => nomatch h), .inl rfl⟩
  | g :: F, c => by
    obtain ⟨h1, h2, h3⟩ := maxT_spec F (max c g.t)
    show c ≤ maxT F (max c g.t) ∧ _
    refine ⟨by omega, fun f hf => ?_, ?_⟩
    · cases hf with
      | head => show g.t ≤ maxT F (max c g.t); omega
      | tail _ hf => exact h2 f hf
    · show maxT F (max c g.t) = c ∨ ∃ f ∈ g :: F, maxT F (max c g.t) = f.t
      rcases h3 with h | ⟨f, hf, h⟩
      · by_cases hm : g.t ≤ c
        · exact .inl (by omega)
        · exact .inr ⟨g, List.mem_cons_self, by omega⟩
      · exact .inr ⟨f, List.mem_cons_of_mem _ hf, h⟩
theorem max_start {F : List Fl} {c : Int} (hs : sortedT F = true) : ∀ {m : Int}, (m = c ∨ ∃ f ∈ F, m = f.t) → c ≤ m → (∀ f ∈ F, f.t ≤ m) → m = startOf F c := fun {m} h1 h2 h3 => by
  have hT := tops_start (c := c) hs
  unfold startOf at hT ⊢
  cases e : F.getLast? with
  | none =>
    have hF : F = [] := List.getLast?_eq_none_iff.mp e
    subst hF
    rcases h1 with h | ⟨f, hf, _⟩
    · exact h
    · cases hf
  | some g =>
    have hg : g ∈ F := List.mem_of_getLast? e
    have := h3 g hg
    rw [e] at hT
    show m = max c g.t
    rcases h1 with h | ⟨f, hf, h⟩
    · omega
    · have : f.t ≤ max c g.t := hT f hf
      omega
/-! ### stretched -/
def strF (k m v : Int) (f : Fl) : Fl := ⟨f.left, k * f.l, k * f.r, m * f.t + v, m * f.b + v⟩
theorem mul_max {k a b : Int} (h : 0 < k) : max (k * a) (k * b) = k * max a b := by
  by_cases c : a ≤ b
  · have := Int.mul_le_mul_of_nonneg_left c (Int.le_of_lt h)
    rw [Int.max_eq_right c, Int.max_eq_right this]
  · have c : b ≤ a := by omega
    have := Int.mul_le_mul_of_nonneg_left c (Int.le_of_lt h)
    rw [Int.max_eq_left c, Int.max_eq_left this]
theorem mul_min {k a b : Int} (h : 0 < k) : min (k * a) (k * b) = k * min a b := by
  by_cases c : a ≤ b
  · have := Int.mul_le_mul_of_nonneg_left c (Int.le_of_lt h)
    rw [Int.min_eq_left c, Int.min_eq_left this]
  · have c : b ≤ a := by omega
    have := Int.mul_le_mul_of_nonneg_left c (Int.le_of_lt h)
    rw [Int.min_eq_right c, Int.min_eq_right this]
theorem aff_le {m v a b : Int} (h : 0 < m) : m * a + v ≤ m * b + v ↔ a ≤ b := by
  constructor
  · intro z
    exact Int.le_of_mul_le_mul_left (by omega : m * a ≤ m * b) h
  · intro z
    have := Int.mul_le_mul_of_nonneg_left z (Int.le_of_lt h)
    omega
theorem aff_lt {m v a b : Int} (h : 0 < m) : m * a + v < m * b + v ↔ a < b := by
  have := aff_le (m := m) (v := v) (a := b) (b := a) h
  constructor <;> intro z
  · apply Int.not_le.mp
    intro c
    have := this.mpr c
    omega
  · apply Int.not_le.mp
    intro c
    have := this.mp c
    omega
theorem low_str {k m v : Int} (hk : 0 < k) (hm : 0 < m) : ∀ (F : List Fl) (low r : Int), lowOf (F.map (strF k m v)) (k * low) (m * r + v) = k * lowOf F low r
  | [], _, _ => rfl
  | g :: F, low, r => by
    show lowOf (F.map (strF k m v)) (if (strF k m v g).t ≤ m * r + v ∧ m * r + v < (strF k m v g).b ∧ g.left = true then max (k * low) (k * g.r) else k * low) (m * r + v) = k * lowOf F (if g.t ≤ r ∧ r < g.b ∧ g.left = true then max low g.r else low) r
    have e : (if (strF k m v g).t ≤ m * r + v ∧ m * r + v < (strF k m v g).b ∧ g.left = true then max (k * low) (k * g.r) else k * low) = k * (if g.t ≤ r ∧ r < g.b ∧ g.left = true then max low g.r else low) := by
      by_cases c : g.t ≤ r ∧ r < g.b ∧ g.left = true
      · rw [if_pos c, if_pos ⟨(aff_le hm).mpr c.1, (aff_lt hm).mpr c.2.1, c.2.2⟩, mul_max hk]
      · rw [if_neg c, if_neg (fun z => c ⟨(aff_le hm).mp z.1, (aff_lt hm).mp z.2.1, z.2.2⟩)]
    rw [e]
    exact low_str hk hm F _ r
theorem high_str {k m v : Int} (hk : 0 < k) (hm : 0 < m) : ∀ (F : List Fl) (low r : Int), highOf (F.map (strF k m v)) (k * low) (m * r + v) = k * highOf F low r
  | [], _, _ => rfl
  | g :: F, low, r => by
    show highOf (F.map (strF k m v)) (if (strF k m v g).t ≤ m * r + v ∧ m * r + v < (strF k m v g).b ∧ g.left = false then min (k * low) (k * g.l) else k * low) (m * r + v) = k * highOf F (if g.t ≤ r ∧ r < g.b ∧ g.left = false then min low g.l else low) r
    have e : (if (strF k m v g).t ≤ m * r + v ∧ m * r + v < (strF k m v g).b ∧ g.left = false then min (k * low) (k * g.l) else k * low) = k * (if g.t ≤ r ∧ r < g.b ∧ g.left = false then min low g.l else low) := by
      by_cases c : g.t ≤ r ∧ r < g.b ∧ g.left = false
      · rw [if_pos c, if_pos ⟨(aff_le hm).mpr c.1, (aff_lt hm).mpr c.2.1, c.2.2⟩, mul_min hk]
      · rw [if_neg c, if_neg (fun z => c ⟨(aff_le hm).mp z.1, (aff_lt hm).mp z.2.1, z.2.2⟩)]
    rw [e]
    exact high_str hk hm F _ r
theorem mul_inj {k a b : Int} (hk : 0 < k) : k * a = k * b ↔ a = b := ⟨Int.eq_of_mul_eq_mul_left (by omega), fun e => by rw [e]⟩
theorem wide_str {k w s a : Int} (hk : 0 < k) (h0 : 0 ≤ s) (h1 : s < k) : k * w - s ≤ k * a ↔ w ≤ a := by
  constructor
  · intro h
    apply Int.not_lt.mp
    intro c
    have : k * (a + 1) ≤ k * w := Int.mul_le_mul_of_nonneg_left (by omega) (Int.le_of_lt hk)
    rw [Int.mul_add] at this
    omega
  · intro h
    have : k * w ≤ k * a := Int.mul_le_mul_of_nonneg_left h (Int.le_of_lt hk)
    omega
theorem goes_str {k m v : Int} (hk : 0 < k) (hm : 0 < m) {F : List Fl} {hi w s r : Int} (h0 : 0 ≤ s) (h1 : s < k) : goesIn (F.map (strF k m v)) 0 (k * hi) (m * r + v) (k * w - s) = goesIn F 0 hi r w := by
  have e0 : (0 : Int) = k * 0 := by rw [Int.mul_zero]
  have el : lowOf (F.map (strF k m v)) 0 (m * r + v) = k * lowOf F 0 r := by
    have := low_str hk hm (v := v) F 0 r
    rwa [← e0] at this
  unfold goesIn
  rw [el, high_str hk hm]
  have e1 : k * highOf F hi r - k * lowOf F 0 r = k * (highOf F hi r - lowOf F 0 r) := (Int.mul_sub _ _ _).symm
  have e3 : k * lowOf F 0 r = 0 ↔ lowOf F 0 r = 0 := by
    have := mul_inj (a := lowOf F 0 r) (b := 0) hk
    rwa [← e0] at this
  rw [e1, decide_eq_decide.mpr (wide_str hk h0 h1), decide_eq_decide.mpr e3, decide_eq_decide.mpr (mul_inj hk)]
theorem start_str {k m v : Int} (hm : 0 < m) {F : List Fl} {c : Int} : startOf (F.map (strF k m v)) (m * c + v) = m * startOf F c + v := by
  unfold startOf
  rw [List.getLast?_map]
  cases F.getLast? with
  | none => rfl
  | some g =>
    show max (m * c + v) (m * g.t + v) = m * max c g.t + v
    by_cases h : c ≤ g.t
    · have := (aff_le (v := v) hm).mpr h
      rw [Int.max_eq_right h, Int.max_eq_right this]
    · have h : g.t ≤ c := by omega
      have := (aff_le (v := v) hm).mpr h
      rw [Int.max_eq_left h, Int.max_eq_left this]
theorem row_str {k m v : Int} (hk : 0 < k) (hm : 0 < m) {F : List Fl} {hi w s st y r' : Int} (h0 : 0 ≤ s) (h1 : s < k) (hy : IsRow F 0 hi w st y) (hr : IsRow (F.map (strF k m v)) 0 (k * hi) (k * w - s) (m * st + v) r') : r' = m * y + v := by
  have ha : r' ≤ m * y + v := by
    apply Int.not_lt.mp
    intro c
    have := hr.least _ ((aff_le hm).mpr hy.ge) c
    rw [goes_str hk hm h0 h1, hy.goes] at this
    cases this
  obtain ⟨x, hx⟩ : ∃ x, r' = m * x + v := by
    rcases hr.bot with h | ⟨f, hf, h⟩
    · exact ⟨st, h⟩
    · obtain ⟨g, _, rfl⟩ := List.mem_map.mp hf
      exact ⟨g.b, h.symm⟩
  subst hx
  have hx1 := (aff_le hm).mp hr.ge
  have hx2 := hr.goes
  rw [goes_str hk hm h0 h1] at hx2
  have hx3 := (aff_le hm).mp ha
  by_cases c : x < y
  · have := hy.least x hx1 c
    rw [hx2] at this
    cases this
  · have : x = y := by omega
    rw [this]
theorem at_str {k m v : Int} (hk : 0 < k) (hm : 0 < m) {F : List Fl} {hi w s y : Int} {left : Bool} : atOf (F.map (strF k m v)) 0 (k * hi) (k * w - s) left (m * y + v) = k * atOf F 0 hi w left y + (if left then 0 else s) := by
  have e0 : (0 : Int) = k * 0 := by rw [Int.mul_zero]
  have el : lowOf (F.map (strF k m v)) 0 (m * y + v) = k * lowOf F 0 y := by
    have := low_str hk hm (v := v) F 0 y
    rwa [← e0] at this
  unfold atOf
  rw [el, high_str hk hm]
  cases left with
  | true => simp
  | false =>
    simp only [Bool.false_eq_true, if_false]
    rw [Int.mul_sub]
    omega
theorem sorted_str {k m v : Int} (hm : 0 < m) : ∀ {F : List Fl}, sortedT F = true → sortedT (F.map (strF k m v)) = true
  | [], _ => rfl
  | [_], _ => rfl
  | f :: g :: F, h => by
    unfold sortedT at h
    rw [Bool.and_eq_true] at h
    show (decide (m * f.t + v ≤ m * g.t + v) && sortedT ((g :: F).map (strF k m v))) = true
    rw [sorted_str hm h.2, Bool.and_true]
    exact decide_eq_true ((aff_le hm).mpr (of_decide_eq_true h.1))
end K92
namespace K92
/-! ### the plain law: papers -/
def cov (f : Fl) (row : Int) : Prop := f.t ≤ row ∧ row < f.b
theorem tight_spec (F : List Fl) (width row : Int) : ∀ n, n ≤ F.length →
    ((∀ k, (tightTo F width row n).1 = some k → ∃ f, F[k]? = some f ∧ k < n ∧ f.left = true ∧ cov f row ∧ takes f width = true ∧ ∀ (m : Nat) (g : Fl), m < n → F[m]? = some g → g.left = true → cov g row → takes g width = true → g.r ≤ f.r) ∧
     ((tightTo F width row n).1 = none → ∀ (m : Nat) (g : Fl), m < n → F[m]? = some g → g.left = true → cov g row → takes g width = false)) ∧
    ((∀ k, (tightTo F width row n).2 = some k → ∃ f, F[k]? = some f ∧ k < n ∧ f.left = false ∧ cov f row ∧ takes f width = true ∧ ∀ (m : Nat) (g : Fl), m < n → F[m]? = some g → g.left = false → cov g row → takes g width = true → f.l ≤ g.l) ∧
     ((tightTo F width row n).2 = none → ∀ (m : Nat) (g : Fl), m < n → F[m]? = some g → g.left = false → cov g row → takes g width = false))
  | 0, _ => by
    refine ⟨⟨fun k h => ?_, fun _ m g h => absurd h (Nat.not_lt_zero m)⟩, ⟨fun k h => ?_, fun _ m g h => absurd h (Nat.not_lt_zero m)⟩⟩
    · exact absurd (show (none : Option Nat) = some k from h) (fun z => nomatch z)
    · exact absurd (show (none : Option Nat) = some k from h) (fun z => nomatch z)
  | n + 1, h => by
    obtain ⟨⟨h1, h2⟩, h3, h4⟩ := tight_spec F width row n (by omega)
    have hf : F[n]? = some F[n] := List.getElem?_eq_getElem (by omega)
    have e : tightTo F width row (n + 1) = tStep F width row (tightTo F width row n) n F[n] := by
      rw [tightTo, hf]
    rw [e]
    clear e
    generalize tightTo F width row n = s at *
    generalize F[n] = f at *
    obtain ⟨s1, s2⟩ := s
    simp only at h1 h2 h3 h4
    have hm : ∀ (m : Nat) (g : Fl), m < n + 1 → F[m]? = some g → m < n ∨ g = f := fun m g h5 h6 => by
      by_cases c : m < n
      · exact .inl c
      · have : m = n := by omega
        subst this
        rw [hf] at h6
        exact .inr (Option.some.inj h6).symm
    unfold tStep
    cases hl : f.left with
    | true =>
      have hside : sideOf f (s1, s2) = s1 := by unfold sideOf; rw [hl]; rfl
      rw [hside]
      have R : ((∀ k, s2 = some k → ∃ f, F[k]? = some f ∧ k < n + 1 ∧ f.left = false ∧ cov f row ∧ takes f width = true ∧ ∀ (m : Nat) (g : Fl), m < n + 1 → F[m]? = some g → g.left = false → cov g row → takes g width = true → f.l ≤ g.l) ∧
         (s2 = none → ∀ (m : Nat) (g : Fl), m < n + 1 → F[m]? = some g → g.left = false → cov g row → takes g width = false)) := by
        refine ⟨fun k hk => ?_, fun hk m g a b c => ?_⟩
        · obtain ⟨f', a, b, c, d, e, i⟩ := h3 k hk
          refine ⟨f', a, by omega, c, d, e, fun m g a' b' c' => ?_⟩
          rcases hm m g a' b' with h | h
          · exact i m g h b' c'
          · rw [h, hl] at c'; cases c'
        · rcases hm m g a b with h | h
          · exact h4 hk m g h b c
          · rw [h, hl] at c; cases c
      by_cases hc : f.t ≤ row ∧ row < f.b ∧ takes f width = true ∧ beats F f s1 = true
      · rw [if_pos hc]
        obtain ⟨c1, c2, c3, c4⟩ := hc
        have hset : setSide f (s1, s2) n = (some n, s2) := by unfold setSide; rw [hl]; rfl
        rw [hset]
        refine ⟨⟨fun k hk => ?_, fun hk => by cases hk⟩, R⟩
        have hk : n = k := Option.some.inj hk
        subst hk
        refine ⟨f, hf, Nat.lt_succ_self _, hl, ⟨c1, c2⟩, c3, fun m g a b c d e => ?_⟩
        rcases hm m g a b with h | h
        · cases hs : s1 with
          | none =>
            have := h2 hs m g h b c d
            rw [e] at this; cases this
          | some k =>
            obtain ⟨f', a', b', c', d', e', i'⟩ := h1 k hs
            have := i' m g h b c d e
            rw [hs] at c4
            unfold beats at c4
            simp only [a', hl, if_true] at c4
            have := of_decide_eq_true c4
            omega
        · rw [h]; exact Int.le_refl _
      · rw [if_neg hc]
        refine ⟨⟨fun k hk => ?_, fun hk m g a b c d => ?_⟩, R⟩
        · have hk : s1 = some k := hk
          obtain ⟨f', a', b', c', d', e', i'⟩ := h1 k hk
          refine ⟨f', a', by omega, c', d', e', fun m g a b c d e => ?_⟩
          rcases hm m g a b with h | h
          · exact i' m g h b c d e
          · subst h
            apply Int.not_lt.mp
            intro z
            refine hc ⟨d.1, d.2, e, ?_⟩
            rw [hk]
            unfold beats
            simp only [a', hl, if_true]
            exact decide_eq_true z
        · have hk : s1 = none := hk
          rcases hm m g a b with h | h
          · exact h2 hk m g h b c d
          · subst h
            cases ht : takes g width with
            | false => rfl
            | true => exact absurd ⟨d.1, d.2, ht, by rw [hk]; rfl⟩ hc
    | false =>
      have hside : sideOf f (s1, s2) = s2 := by unfold sideOf; rw [hl]; rfl
      rw [hside]
      have R : ((∀ k, s1 = some k → ∃ f, F[k]? = some f ∧ k < n + 1 ∧ f.left = true ∧ cov f row ∧ takes f width = true ∧ ∀ (m : Nat) (g : Fl), m < n + 1 → F[m]? = some g → g.left = true → cov g row → takes g width = true → g.r ≤ f.r) ∧
         (s1 = none → ∀ (m : Nat) (g : Fl), m < n + 1 → F[m]? = some g → g.left = true → cov g row → takes g width = false)) := by
        refine ⟨fun k hk => ?_, fun hk m g a b c => ?_⟩
        · obtain ⟨f', a, b, c, d, e, i⟩ := h1 k hk
          refine ⟨f', a, by omega, c, d, e, fun m g a' b' c' => ?_⟩
          rcases hm m g a' b' with h | h
          · exact i m g h b' c'
          · rw [h, hl] at c'; cases c'
        · rcases hm m g a b with h | h
          · exact h2 hk m g h b c
          · rw [h, hl] at c; cases c
      by_cases hc : f.t ≤ row ∧ row < f.b ∧ takes f width = true ∧ beats F f s2 = true
      · rw [if_pos hc]
        obtain ⟨c1, c2, c3, c4⟩ := hc
        have hset : setSide f (s1, s2) n = (s1, some n) := by unfold setSide; rw [hl]; rfl
        rw [hset]
        refine ⟨R, ⟨fun k hk => ?_, fun hk => by cases hk⟩⟩
        have hk : n = k := Option.some.inj hk
        subst hk
        refine ⟨f, hf, Nat.lt_succ_self _, hl, ⟨c1, c2⟩, c3, fun m g a b c d e => ?_⟩
        rcases hm m g a b with h | h
        · cases hs : s2 with
          | none =>
            have := h4 hs m g h b c d
            rw [e] at this; cases this
          | some k =>
            obtain ⟨f', a', b', c', d', e', i'⟩ := h3 k hs
            have := i' m g h b c d e
            rw [hs] at c4
            unfold beats at c4
            simp only [a', hl, Bool.false_eq_true, if_false] at c4
            have := of_decide_eq_true c4
            omega
        · rw [h]; exact Int.le_refl _
      · rw [if_neg hc]
        refine ⟨R, ⟨fun k hk => ?_, fun hk m g a b c d => ?_⟩⟩
        · have hk : s2 = some k := hk
          obtain ⟨f', a', b', c', d', e', i'⟩ := h3 k hk
          refine ⟨f', a', by omega, c', d', e', fun m g a b c d e => ?_⟩
          rcases hm m g a b with h | h
          · exact i' m g h b c d e
          · subst h
            apply Int.not_lt.mp
            intro z
            refine hc ⟨d.1, d.2, e, ?_⟩
            rw [hk]
            unfold beats
            simp only [a', hl, Bool.false_eq_true, if_false]
            exact decide_eq_true z
        · have hk : s2 = none := hk
          rcases hm m g a b with h | h
          · exact h4 hk m g h b c d
          · subst h
            cases ht : takes g width with
            | false => rfl
            | true => exact absurd ⟨d.1, d.2, ht, by rw [hk]; rfl⟩ hc
def lowN (F : List Fl) : Option Nat → Int
  | none => 0
  | some k => match F[k]? with | some f => f.r | none => 0
def highN (F : List Fl) (width : Int) : Option Nat → Int
  | none => width
  | some k => match F[k]? with | some f => f.l | none => width
/-- a witness of a side beside the rows from top to stop -/
def Wit (F : List Fl) (width : Int) (side : Bool) (top stop : Int) (o : Option Nat) : Prop := ∀ k, o = some k → ∃ f, F[k]? = some f ∧ f.left = side ∧ f.t ≤ top ∧ stop ≤ f.b ∧ takes f width = true
structure Stp where
  row : Int
  stop : Int
  i : Option Nat
  j : Option Nat
structure GoodS (F : List Fl) (width w : Int) (s : Stp) : Prop where
  lt : s.row < s.stop
  some_ : s.i ≠ none ∨ s.j ≠ none
  wi : Wit F width true s.row s.stop s.i
  wj : Wit F width false s.row s.stop s.j
  less : highN F width s.j - lowN F s.i < w
theorem tight_low {F : List Fl} {width row : Int} : lowN F (tightOf F width row).1 = lowOf F 0 row ∧ highN F width (tightOf F width row).2 = highOf F width row := by
  obtain ⟨⟨h1, h2⟩, h3, h4⟩ := tight_spec F width row F.length (Nat.le_refl _)
  obtain ⟨l1, l2, l3⟩ := low_spec F 0 row
  obtain ⟨g1, g2, g3⟩ := high_spec F width row
  have hmem : ∀ f ∈ F, ∃ m, m < F.length ∧ F[m]? = some f := fun f hf => by
    obtain ⟨m, hm, e⟩ := List.getElem_of_mem hf
    exact ⟨m, hm, by rw [List.getElem?_eq_getElem hm, e]⟩
  unfold tightOf
  generalize tightTo F width row F.length = s at *
  obtain ⟨s1, s2⟩ := s
  simp only at h1 h2 h3 h4 ⊢
  constructor
  · cases hs : s1 with
    | none =>
      show (0 : Int) = _
      rcases l3 with h | ⟨f, hf, a, b, c, d⟩
      · exact h.symm
      · obtain ⟨m, hm, e⟩ := hmem f hf
        have := h2 hs m f hm e c ⟨a, b⟩
        unfold takes at this
        rw [c, if_pos rfl] at this
        have := of_decide_eq_false this
        omega
    | some k =>
      obtain ⟨f, a, b, c, d, e, i⟩ := h1 k hs
      have hlow : lowN F (some k) = f.r := by simp only [lowN, a]
      rw [hlow]
      have hfm : f ∈ F := List.mem_of_getElem? a
      have h5 := l2 f hfm d.1 d.2 c
      have h6 : 0 < f.r := by
        unfold takes at e
        rw [c, if_pos rfl] at e
        exact of_decide_eq_true e
      rcases l3 with h | ⟨g, hg, a', b', c', d'⟩
      · omega
      · obtain ⟨m, hm, em⟩ := hmem g hg
        have := i m g hm em c' ⟨a', b'⟩ (by unfold takes; rw [c', if_pos rfl]; exact decide_eq_true (by omega))
        omega
  · cases hs : s2 with
    | none =>
      show width = _
      rcases g3 with h | ⟨f, hf, a, b, c, d⟩
      · exact h.symm
      · obtain ⟨m, hm, e⟩ := hmem f hf
        have := h4 hs m f hm e c ⟨a, b⟩
        unfold takes at this
        rw [c] at this
        have := of_decide_eq_false (show decide (f.l < width) = false from this)
        omega
    | some k =>
      obtain ⟨f, a, b, c, d, e, i⟩ := h3 k hs
      have hlow : highN F width (some k) = f.l := by simp only [highN, a]
      rw [hlow]
      have hfm : f ∈ F := List.mem_of_getElem? a
      have h5 := g2 f hfm d.1 d.2 c
      have h6 : f.l < width := by
        unfold takes at e
        rw [c] at e
        exact of_decide_eq_true (show decide (f.l < width) = true from e)
      rcases g3 with h | ⟨g, hg, a', b', c', d'⟩
      · omega
      · obtain ⟨m, hm, em⟩ := hmem g hg
        have := i m g hm em c' ⟨a', b'⟩ (by unfold takes; rw [c']; exact decide_eq_true (show g.l < width by omega))
        omega
/-- the tightest pair of a row at which it does not go in: a right stretch to any stop with no bottom ahead of it -/
theorem tight_good {F : List Fl} {width w row stop : Int} (hlt : row < stop) (hb : ∀ f ∈ F, f.b ≤ row ∨ stop ≤ f.b) (hg : goesIn F 0 width row w = false) : GoodS F width w ⟨row, stop, (tightOf F width row).1, (tightOf F width row).2⟩ := by
  obtain ⟨e1, e2⟩ := tight_low (F := F) (width := width) (row := row)
  obtain ⟨⟨h1, _⟩, h3, _⟩ := tight_spec F width row F.length (Nat.le_refl _)
  unfold goesIn at hg
  rw [Bool.or_eq_false_iff] at hg
  obtain ⟨ga, gb⟩ := hg
  have ga := of_decide_eq_false ga
  refine ⟨hlt, ?_, fun k hk => ?_, fun k hk => ?_, ?_⟩
  · apply Decidable.byContradiction
    intro z
    have z1 : (tightOf F width row).1 = none := Decidable.byContradiction fun y => z (.inl y)
    have z2 : (tightOf F width row).2 = none := Decidable.byContradiction fun y => z (.inr y)
    rw [z1] at e1
    rw [z2] at e2
    have e1 : (0 : Int) = lowOf F 0 row := e1
    have e2 : width = highOf F width row := e2
    rw [← e1, ← e2] at gb
    simp at gb
  · obtain ⟨f, a, b, c, d, e, i⟩ := h1 k hk
    refine ⟨f, a, c, d.1, ?_, e⟩
    have := hb f (List.mem_of_getElem? a)
    have := d.2
    simp only
    omega
  · obtain ⟨f, a, b, c, d, e, i⟩ := h3 k hk
    refine ⟨f, a, c, d.1, ?_, e⟩
    have := hb f (List.mem_of_getElem? a)
    have := d.2
    simp only
    omega
  · show highN F width (tightOf F width row).2 - lowN F (tightOf F width row).1 < w
    rw [e1, e2]
    omega
/-! ### papers as data -/
def optD : Option Nat → D
  | none => .non
  | some k => .int (k : Nat)
def stpD (s : Stp) : D := .tup [.int s.row, .int s.stop, optD s.i, optD s.j]
def isNon : D → Bool
  | .non => true
  | _ => false
/-- the number of a float that data tell -/
def numD (F : List Fl) : D → Option Nat
  | .int k => if 0 ≤ k ∧ k < (F.length : Nat) then some k.toNat else none
  | _ => none
def witD (F : List Fl) (width : Int) (side : Bool) (top stop : Int) (d : D) : Bool := isNon d || (match numD F d with
  | some k => (match F[k]? with | some f => decide (f.left = side) && (decide (f.t ≤ top) && (decide (stop ≤ f.b) && takes f width)) | none => false)
  | none => false)
def strD4 (F : List Fl) (width w row : Int) (d0 d1 i j : D) : Option Int := match d0, d1 with
  | .int top, .int stop => if top = row ∧ top < stop ∧ (isNon i && isNon j) = false ∧ witD F width true top stop i = true ∧ witD F width false top stop j = true ∧ highN F width (numD F j) - lowN F (numD F i) < w then some stop else none
  | _, _ => none
def strD (F : List Fl) (width w row : Int) : D → Option Int
  | .tup [d0, d1, i, j] => strD4 F width w row d0 d1 i j
  | _ => none
def runD (F : List Fl) (width w : Int) : Int → List D → Option Int
  | row, [] => some row
  | row, d :: ds => match strD F width w row d with
    | some r => runD F width w r ds
    | none => none
def rightD (F : List Fl) (width w start stop : Int) : Option D → Bool
  | some (.lst ds) => decide (runD F width w start ds = some stop)
  | _ => false
def isPlace (x y : Int) : Option D → Bool
  | some (.tup [.int a, .int b]) => decide (a = x) && decide (b = y)
  | _ => false
theorem num_opt {F : List Fl} {side : Bool} {width top stop : Int} {o : Option Nat} (h : Wit F width side top stop o) : numD F (optD o) = o ∧ witD F width side top stop (optD o) = true := by
  cases o with
  | none => exact ⟨rfl, rfl⟩
  | some k =>
    obtain ⟨f, a, b, c, d, e⟩ := h k rfl
    have hk : k < F.length := (List.getElem?_eq_some_iff.mp a).1
    have hn : numD F (optD (some k)) = some k := by
      show (if 0 ≤ (k : Int) ∧ (k : Int) < (F.length : Nat) then some (k : Int).toNat else none) = some k
      rw [if_pos ⟨by omega, by omega⟩, Int.toNat_natCast]
    refine ⟨hn, ?_⟩
    unfold witD
    rw [hn]
    simp only [a]
    rw [decide_eq_true b, decide_eq_true c, decide_eq_true d, e]
    simp
theorem str_good {F : List Fl} {width w : Int} {s : Stp} (h : GoodS F width w s) : strD F width w s.row (stpD s) = some s.stop := by
  obtain ⟨a1, a2⟩ := num_opt h.wi
  obtain ⟨b1, b2⟩ := num_opt h.wj
  show (if s.row = s.row ∧ s.row < s.stop ∧ (isNon (optD s.i) && isNon (optD s.j)) = false ∧ witD F width true s.row s.stop (optD s.i) = true ∧ witD F width false s.row s.stop (optD s.j) = true ∧ highN F width (numD F (optD s.j)) - lowN F (numD F (optD s.i)) < w then some s.stop else none) = _
  rw [if_pos]
  refine ⟨rfl, h.lt, ?_, a2, b2, by rw [a1, b1]; exact h.less⟩
  rcases h.some_ with z | z
  · cases hi : s.i with
    | none => exact absurd hi z
    | some k => rfl
  · cases hi : s.j with
    | none => exact absurd hi z
    | some k => rw [Bool.and_comm]; rfl
theorem run_snoc {F : List Fl} {width w : Int} : ∀ (ds : List D) (row r : Int) (d : D), runD F width w row ds = some r → runD F width w row (ds ++ [d]) = strD F width w r d
  | [], row, r, d, h => by
    have h : some row = some r := h
    have h := Option.some.inj h
    subst h
    show (match strD F width w row d with | some r => runD F width w r [] | none => none) = _
    cases strD F width w row d <;> rfl
  | e :: ds, row, r, d, h => by
    unfold runD at h
    show (match strD F width w row e with | some r => runD F width w r (ds ++ [d]) | none => none) = _
    cases he : strD F width w row e with
    | none => rw [he] at h; cases h
    | some r' =>
      rw [he] at h
      exact run_snoc ds r' r d h
/-- the bottoms between -/
structure Mids (F : List Fl) (st bt : Int) (ns : List Int) : Prop where
  inc : ns.Pairwise (· < ·)
  mem : ∀ x, x ∈ ns ↔ st < x ∧ x < bt ∧ ∃ f ∈ F, f.b = x
/-- the paper that float_paper tells, stretch by stretch -/
def tightS (F : List Fl) (width : Int) (r s : Int) : Stp := ⟨r, s, (tightOf F width r).1, (tightOf F width r).2⟩
theorem mids_step {F : List Fl} {width w st bt : Int} {ns : List Int} (M : Mids F st bt ns) (hlt : st < bt) (hno : ∀ x, st ≤ x → x < bt → goesIn F 0 width x w = false) {k : Nat} {r s : Int}
    (hr : (st :: ns ++ [bt])[k]? = some r) (hs : (st :: ns ++ [bt])[k + 1]? = some s) : GoodS F width w (tightS F width r s) := by
  have hp : (st :: ns ++ [bt]).Pairwise (· < ·) := by
    rw [List.pairwise_append]
    refine ⟨List.pairwise_cons.mpr ⟨fun x hx => ((M.mem x).mp hx).1, M.inc⟩, List.pairwise_singleton _ _, fun a ha b hb => ?_⟩
    rw [List.mem_singleton.mp hb]
    cases ha with
    | head => exact hlt
    | tail _ h => exact ((M.mem a).mp h).2.1
  have hP := List.pairwise_iff_getElem.mp hp
  obtain ⟨lr, er⟩ := List.getElem?_eq_some_iff.mp hr
  obtain ⟨ls, es⟩ := List.getElem?_eq_some_iff.mp hs
  have hrs : r < s := by
    have := hP k (k + 1) lr ls (Nat.lt_succ_self _)
    rw [er, es] at this
    exact this
  have h1 : st ≤ r := by
    cases k with
    | zero =>
      have : st = r := by simpa using er
      omega
    | succ k =>
      have := hP 0 (k + 1) (by simp) lr (Nat.succ_pos _)
      rw [er] at this
      have : st < r := this
      omega
  have hlast : (st :: ns ++ [bt]).length = ns.length + 2 := by simp
  have h2 : s ≤ bt := by
    have eb : (st :: ns ++ [bt])[ns.length + 1]'(by omega) = bt := by
      simp
    by_cases c : k + 1 < ns.length + 1
    · have := hP (k + 1) (ns.length + 1) ls (by omega) c
      rw [es, eb] at this
      omega
    · have hk : k + 1 = ns.length + 1 := by omega
      have : (st :: ns ++ [bt])[k + 1]'ls = (st :: ns ++ [bt])[ns.length + 1]'(by omega) := by
        congr 1
      rw [es, eb] at this
      omega
  refine tight_good hrs (fun f hf => ?_) (hno r h1 (by omega))
  by_cases c : f.b ≤ r
  · exact .inl c
  · refine .inr (Int.not_lt.mp fun z => ?_)
    have hm : f.b ∈ ns := (M.mem f.b).mpr ⟨by omega, by omega, f, hf, rfl⟩
    obtain ⟨m, hm, em⟩ := List.getElem_of_mem (List.mem_append_left [bt] (List.mem_cons_of_mem st hm) : f.b ∈ st :: ns ++ [bt])
    have a1 : k < m := by
      apply Nat.not_le.mp
      intro y
      by_cases e : m = k
      · subst e
        rw [er] at em
        omega
      · have := hP m k hm lr (by omega)
        rw [er, em] at this
        omega
    have a2 : m < k + 1 := by
      apply Nat.not_le.mp
      intro y
      by_cases e : m = k + 1
      · subst e
        rw [es] at em
        omega
      · have := hP (k + 1) m ls hm (by omega)
        rw [es, em] at this
        omega
    omega
/-! ### the law's own papers -/
def cnt (F : List Fl) (row : Int) : Nat := F.countP fun f => decide (row < f.b)
theorem cnt_le (F : List Fl) (row : Int) : cnt F row ≤ F.length := List.countP_le_length
theorem cnt_mono {F : List Fl} {r s : Int} (h : r ≤ s) : cnt F s ≤ cnt F r := List.countP_mono_left fun f _ hf => by
  have := of_decide_eq_true hf
  exact decide_eq_true (by omega)
theorem cnt_lt : ∀ {F : List Fl} {r s : Int}, r < s → (∃ f ∈ F, f.b = s) → cnt F s < cnt F r
  | [], _, _, _, ⟨f, h, _⟩ => nomatch h
  | g :: F, r, s, hl, ⟨f, hf, e⟩ => by
    have hm := cnt_mono (F := F) (r := r) (s := s) (by omega)
    unfold cnt at hm ⊢
    rw [List.countP_cons, List.countP_cons]
    cases hf with
    | head =>
      rw [if_neg (by simp; omega), if_pos (by simp; omega)]
      omega
    | tail _ hf =>
      have ih := cnt_lt hl ⟨f, hf, e⟩
      unfold cnt at ih
      by_cases c : s < g.b
      · rw [if_pos (by simpa using c), if_pos (by simp; omega)]
        omega
      · rw [if_neg (by simpa using c)]
        omega
/-- the numbers of a side that the law finds, None first -/
def isNum' (F : List Fl) (width : Int) (side : Bool) (row : Int) (k : Nat) : Prop := ∃ f, F[k]? = some f ∧ f.left = side ∧ cov f row ∧ takes f width = true
theorem made_good {F : List Fl} {width w row stop : Int} {i j : Option Nat} (hi : ∀ k, i = some k → isNum' F width true row k) (hj : ∀ k, j = some k → isNum' F width false row k) (hn : i ≠ none ∨ j ≠ none) (hl : highN F width j - lowN F i < w)
    (hlt : row < stop) (h1 : ∀ k f, i = some k → F[k]? = some f → stop ≤ f.b) (h2 : ∀ k f, j = some k → F[k]? = some f → stop ≤ f.b) : GoodS F width w ⟨row, stop, i, j⟩ := by
  refine ⟨hlt, hn, fun k hk => ?_, fun k hk => ?_, hl⟩
  · obtain ⟨f, a, b, c, d⟩ := hi k hk
    exact ⟨f, a, b, c.1, h1 k f hk a, d⟩
  · obtain ⟨f, a, b, c, d⟩ := hj k hk
    exact ⟨f, a, b, c.1, h2 k f hk a, d⟩
theorem made_some {F : List Fl} {width w row : Int} (hg : goesIn F 0 width row w = false) : ∃ i j, (∀ k, i = some k → isNum' F width true row k) ∧ (∀ k, j = some k → isNum' F width false row k) ∧ (i ≠ none ∨ j ≠ none) ∧ highN F width j - lowN F i < w := by
  obtain ⟨⟨h1, _⟩, h3, _⟩ := tight_spec F width row F.length (Nat.le_refl _)
  have G := fun stop hlt hb => tight_good (F := F) (width := width) (w := w) (row := row) (stop := stop) hlt hb hg
  refine ⟨(tightOf F width row).1, (tightOf F width row).2, fun k hk => ?_, fun k hk => ?_, ?_, ?_⟩
  · obtain ⟨f, a, b, c, d, e, _⟩ := h1 k hk
    exact ⟨f, a, c, d, e⟩
  · obtain ⟨f, a, b, c, d, e, _⟩ := h3 k hk
    exact ⟨f, a, c, d, e⟩
  · refine (G (row + 1) (by omega) (fun f _ => by omega)).some_
  · refine (G (row + 1) (by omega) (fun f _ => by omega)).less
end K92

namespace KB
open PySem PySem.Spec PyProof.Rows L2
theorem Kp.hide {p : Addr} {H H' : Hp} (h : Kp p H H') : Same (KB.hide [p] H) (KB.hide [p] H') := fun b o e => by
  obtain ⟨e1, e2⟩ := hide_some.mp e
  exact hide_some.mpr ⟨e1, h b o (by simpa using e1) e2⟩
end KB
namespace K92
open PySem PySem.Spec PyProof.Rows L2 KB
section
variable {P : Program} {w : World} {K : PySem.W.Frag} {mg : Str → Option Value} {base : Heap}
theorem asFl_fl {f g : Fl} (h : asFl (flD f) = some g) : g = f := by
  obtain ⟨left, l, r, t, b⟩ := f
  have e : asFl (flD ⟨left, l, r, t, b⟩) = if sideT left = sideT true then (if l ≤ r ∧ t ≤ b then some ⟨true, l, r, t, b⟩ else none) else if sideT left = sideT false then (if l ≤ r ∧ t ≤ b then some ⟨false, l, r, t, b⟩ else none) else none := rfl
  rw [e] at h
  cases left with
  | true =>
    rw [if_pos rfl] at h
    split at h
    · exact (Option.some.inj h).symm
    · cases h
  | false =>
    rw [if_neg (by decide), if_pos rfl] at h
    split at h
    · exact (Option.some.inj h).symm
    · cases h
theorem asFls_fls : ∀ {F G : List Fl}, asFls (F.map flD) = some G → G = F
  | [], G, h => (Option.some.inj h).symm
  | f :: F, G, h => by
    rw [List.map_cons, asFls] at h
    cases h1 : asFl (flD f) with
    | none => rw [h1] at h; cases h2 : asFls (F.map flD) <;> (rw [h2] at h; cases h)
    | some g =>
      cases h2 : asFls (F.map flD) with
      | none => rw [h1, h2] at h; cases h
      | some G' =>
        rw [h1, h2] at h
        rw [← Option.some.inj h, asFl_fl h1, asFls_fls h2]
theorem Good.sorted {F : List Fl} (h : Good F) : sortedT F = true := by
  have h1 : (match asFls (F.map flD) with | some G => sortedT G | none => false) = true := h.1
  cases e : asFls (F.map flD) with
  | none => rw [e] at h1; cases h1
  | some G =>
    rw [e] at h1
    rw [← asFls_fls e]
    exact h1
theorem cut1 {x : V} {xs : List V} : cutV (x :: xs) (some 1) none = xs := by
  have h : HT.sIx (x :: xs).length 0 (some 1) = 1 := by
    rw [show (1 : Int) = ((1 : Nat) : Int) from rfl, HT.sIx_nat, List.length_cons]
    omega
  show (List.drop (HT.sIx (x :: xs).length 0 (some 1)) (x :: xs)).take _ = xs
  rw [h]
  show List.take _ xs = xs
  rw [List.take_of_length_le]
  show xs.length ≤ (xs.length + 1) - _
  omega
theorem rep_opt {G : Hp} (o : Option Nat) : Rep G (optD o) (noV o) := by
  cases o <;> rfl
def spPaper : Sp := fun vs H Q _ => ∃ v F width c wide left, vs = [v, .int width, .int c, .int wide, .str (S (sideT left))] ∧ Rep H (flsD F) v ∧ Good F ∧ 0 ≤ width ∧ 0 ≤ wide ∧
  ∀ (r : Int) (ps : List Stp) (t : Addr) (xs : List V) (H' : Hp), IsRow F 0 width wide (startOf F c) r → runD F width wide (startOf F c) (ps.map stpD) = some r → ps.length ≤ 1001 → Same H H' → H t = none → H' t = some (.lst xs) → Reps (hide [t] H') (ps.map stpD) xs → Q (.ref t) H'
theorem okPaper (T : Top K w mg) : Ok P w K mg base CX0 6 "float_paper" ["floats", "width", "ceiling", "w", "side"] spPaper := by
  have GFloatAt : Ok P w K mg base CX0 5 "float_at" ["floats", "width", "ceiling", "w", "side"] spAt := okAt T
  have GFirstRowPapers : Ok P w K mg base CX0 1 "first_row_papers" ["floats", "ceiling"] spFirstP := okFirstP T
  have GTightest : Ok P w K mg base CX0 2 "tightest" ["floats", "width", "row"] spTight := okTight T
  have m_sorted := T.m_sorted
  have m_set := T.m_set
  have m_zip := T.m_zip
  refine mkOk T.f_float_paper scFloatPaper (fun vs H Q E h => ?_) (fun f cdv A outer s H vs Q E hr h => ?_)
  · obtain ⟨_, _, _, _, _, _, rfl, _⟩ := h
    rfl
  · obtain ⟨v, F, width, c, wide, left, rfl, hF, hG, hw, hwd, q⟩ := h
    refine ⟨_, pss_cons (ps_set (i := 5) scFloatPaper.nd rfl (Or.inr rfl) (pe_ix ix_tup (pcall GFloatAt (hr.mono (by decide)) (by rfl) pass0 (pa_cons (pv 0) (pa_cons (pv 1) (pa_cons (pv 2) (pa_cons (pv 3) (pa_cons (pv 4) pa_nil)))))) (pe_int) (fun _ _ => rfl)))
  (pss_cons (ps_set (i := 6) scFloatPaper.nd rfl (Or.inr rfl) (pcall GFirstRowPapers (hr.mono (by decide)) (by rfl) pass0 (pa_cons (pv 0) (pa_cons (pv 2) pa_nil))))
  (pss_cons (ps_if (pt_cmpR op_eq (pv 5) (pv 6) (nomark _))
  (pss_one (ps_ret (pe_lst (pa_nil))))
  (pss_nil))
  (pss_cons (ps_set (i := 7) scFloatPaper.nd rfl (Or.inl rfl) (pe_op op_cat (pe_op op_cat (pe_lst (pa_cons (pv 6) pa_nil)) (pe_callB (cr_sortedSI rfl) (by rfl) m_sorted (by decide +kernel) (pa_cons (pe_callTy (cr_setLI rfl) (by rfl) m_set (by decide +kernel) (pa_cons (pe_lc (own := [("one", 13)]) rfl scFloatPaper.nd (pi_list (pv 0)) (blkOk_by (own := [("one", 13)]) (N := ["floats", "width", "ceiling", "w", "side", "bottom", "start", "rows", "paper", "row", "stop", "i", "j", "one"]) (sc := defScope sFloatPaper) (by decide +kernel)) (fun _ _ _ _ _ => pg_name (i := 13) scFloatPaper.nd rfl (Or.inl rfl)) (fun _ _ _ _ _ => pts_one (pt_chain op_lt op_lt (pv 6) (pe_ix (ix_tupK (K := K) rfl) (pv 13) (pe_int) (fun _ _ => rfl)) (pv 5))) (fun _ _ _ _ _ => pe_ix (ix_tupK (K := K) rfl) (pv 13) (pe_int) (fun _ _ => rfl))) pa_nil)) pa_nil))) (pe_lst (pa_cons (pv 5) pa_nil))))
  (pss_cons (ps_set (i := 8) scFloatPaper.nd rfl (Or.inl rfl) (pe_lst (pa_nil)))
  (pss_cons (ps_for PassesOwn.never rfl (pi_zip (by rfl) m_zip (pa_cons (pv 7) (pa_cons (pe_slice sl_list (pv 7) (po_some (pe_int)) po_none) pa_nil))) (pg_tup (n := 2) rfl (pgs_cons (pg_name (i := 9) scFloatPaper.nd rfl (Or.inl rfl)) (pgs_cons (pg_name (i := 10) scFloatPaper.nd rfl (Or.inl rfl)) pgs_nil)))
  (pss_cons (ps_asg (pcall GTightest (hr.mono (by decide)) (by rfl) pass0 (pa_cons (pv 0) (pa_cons (pv 1) (pa_cons (pv 9) pa_nil)))) (pg_tup (n := 2) rfl (pgs_cons (pg_name (i := 11) scFloatPaper.nd rfl (Or.inl rfl)) (pgs_cons (pg_name (i := 12) scFloatPaper.nd rfl (Or.inl rfl)) pgs_nil))))
  (pss_one (ps_expr (pe_bm PySem.F.plainAttrs_list PySem.F.slot_list_append PySem.F.type_list_append mt_append (pv 8) (pa_cons (pe_tup (pa_cons (pv 9) (pa_cons (pv 10) (pa_cons (pv 11) (pa_cons (pv 12) pa_nil))))) pa_nil))))))
  (pss_one (ps_ret (pv 8)))))))), ?_⟩
    (try simp only [cx_K, cx_w, rIn, rMulS, CwR.tReplC, tM1, tBM0, rPop, rExtend, rReverse, rLenS, rEqE, rNeE, rSetL, rIntI, rIntB, tBM, rAppend, rIxL, rIxT, rCat, rSlL, rSlS, gTup, tYes, wipe, tSeq, tAsg, tIfS, tRet, tRetN, tDrop, tNext, tBreak, tCont, tNever, tAug, ipI, tPar, tPar3, gName, gCons, gNil, gSub, tVar, tC, tOp, tUn, tIf, tAndV, tOrV, tNotV, tAnd, tOr, tNot, L2.tB, tTest, tCmp, tChain, tCB, tCons, tNil, tCall, tTup, tLst, tSl, tPart, tNoPart, rI, rI0, rU, rEq, rNe, scal_ii, scal_ss, scal_bb, scal_nn, scal_is, scal_si, rIxS, S_len, S_cps, S_inj, L2.start, List.map_cons, List.map_nil, List.cons_append, List.nil_append, List.append_nil, List.getElem?_cons_zero, List.getElem?_cons_succ, List.set_cons_zero, List.set_cons_succ, List.length_cons, List.length_nil, Nat.reduceAdd, Nat.reduceSub, List.replicate_succ, List.replicate_zero, Option.some.injEq, V.int.injEq, V.str.injEq, V.bl.injEq, V.ref.injEq, List.cons.injEq, and_true, true_and, exists_eq_left, exists_eq_left', exists_and_left, exists_eq, exists_eq', decide_eq_true_eq, Bool.not_eq_true', decide_eq_false_iff_not, Bool.false_eq_true, if_false, if_true, reduceIte, ite_self, CMul, CPow, CDiv])
    refine ⟨v, F, width, c, wide, left, rfl, hF, hG, hw, hwd, fun ns t H1 hB s1 ht et => ⟨_, rfl, _, SqT.of et, _, at_nat (i := 1) rfl, ?_⟩⟩
    have hR := row_is (lo := 0) (hi := width) (w := wide) (tops_start (c := c) hG.sorted) hB
    generalize hr0 : rowOf F 0 width c wide ns = r at *
    have hr0 : firstOf F 0 width wide (startOf F c) (startOf F c :: ns) = r := hr0
    rw [hr0] at hR
    refine ⟨v, F, c, rfl, hF.mono s1, hG.2, fun H2 s2 => ⟨rfl, ite2 (fun he => ?_) (fun he => ?_)⟩⟩
    · refine ⟨by decide, fun p hp => q r [] p [] _ hR ?_ (Nat.zero_le _) ((s1.trans s2).trans (Same.new hp)) ((s1.trans s2).free hp) upd_same rfl⟩
      rw [V.int.inj he]
      rfl
    · have he : r ≠ startOf F c := fun z => he (congrArg V.int z)
      obtain ⟨a, xs, rfl, ha, hX⟩ := hF
      have hln := hX.len2
      have s02 := s1.trans s2
      refine ⟨by decide, fun p1 hp1 => ?_⟩
      have s3 : Same H (upd H2 p1 (.lst [.int (startOf F c)])) := s02.trans (Same.new hp1)
      refine ⟨.ref a, rfl, a, rfl, ⟨_, SqL.of (s3 _ _ ha)⟩, fun D hD => lc_list (xs := xs) (fun i H3 => Same (upd H2 p1 (.lst [.int (startOf F c)])) H3 ∧ H3 D = some (.lst ((((F.take i).map (·.b)).filter fun b => decide (startOf F c < b) && decide (b < r)).map V.int))) ⟨Same.new hD, upd_same⟩ (fun i H3 _ h => SqL.of (h.1 _ _ (s3 _ _ ha))) (fun i x H3 hx hP => ?_) (fun H3 hP => ?_)⟩
      · obtain ⟨s4, e4⟩ := hP
        have hi : i < F.length := by
          have := (List.getElem?_eq_some_iff.mp hx).1
          omega
        have hf : F[i]? = some F[i] := List.getElem?_eq_getElem hi
        obtain ⟨t2, e, et2⟩ := fl_at hX hf
        rw [hx] at e
        have e := Option.some.inj e
        subst e
        have et3 := s4 _ _ (s3 _ _ et2)
        have hle : (((F.take i).map (·.b)).filter fun b => decide (startOf F c < b) && decide (b < r)).length ≤ i := by
          refine Nat.le_trans (List.length_filter_le _ _) ?_
          rw [List.length_map, List.length_take]
          omega
        have hnext : ((F.take (i + 1)).map (·.b)).filter (fun b => decide (startOf F c < b) && decide (b < r)) = ((F.take i).map (·.b)).filter (fun b => decide (startOf F c < b) && decide (b < r)) ++ [F[i].b].filter (fun b => decide (startOf F c < b) && decide (b < r)) := by
          rw [take_snoc hf, List.map_append, List.filter_append]
          rfl
        rw [hnext]
        refine ⟨rfl, ?_⟩
        (try simp only [cx_K, cx_w, rIn, rMulS, CwR.tReplC, tM1, tBM0, rPop, rExtend, rReverse, rLenS, rEqE, rNeE, rSetL, rIntI, rIntB, tBM, rAppend, rIxL, rIxT, rCat, rSlL, rSlS, gTup, tYes, wipe, tSeq, tAsg, tIfS, tRet, tRetN, tDrop, tNext, tBreak, tCont, tNever, tAug, ipI, tPar, tPar3, gName, gCons, gNil, gSub, tVar, tC, tOp, tUn, tIf, tAndV, tOrV, tNotV, tAnd, tOr, tNot, L2.tB, tTest, tCmp, tChain, tCB, tCons, tNil, tCall, tTup, tLst, tSl, tPart, tNoPart, rI, rI0, rU, rEq, rNe, scal_ii, scal_ss, scal_bb, scal_nn, scal_is, scal_si, rIxS, S_len, S_cps, S_inj, L2.start, List.map_cons, List.map_nil, List.cons_append, List.nil_append, List.append_nil, List.getElem?_cons_zero, List.getElem?_cons_succ, List.set_cons_zero, List.set_cons_succ, List.length_cons, List.length_nil, Nat.reduceAdd, Nat.reduceSub, List.replicate_succ, List.replicate_zero, Option.some.injEq, V.int.injEq, V.str.injEq, V.bl.injEq, V.ref.injEq, List.cons.injEq, and_true, true_and, exists_eq_left, exists_eq_left', exists_and_left, exists_eq, exists_eq', decide_eq_true_eq, Bool.not_eq_true', decide_eq_false_iff_not, Bool.false_eq_true, if_false, if_true, reduceIte, ite_self, CMul, CPow, CDiv])
        refine ⟨_, SqT.of et3, _, at_nat (i := 4) rfl, _, rfl, ite2 (fun h1 => ⟨_, rfl, ite2 (fun h2 => ⟨_, SqT.of et3, _, at_nat (i := 4) rfl, _, e4, ?_, s4.mut hD, ?_⟩) (fun h2 => ⟨s4, ?_⟩)⟩) (fun h1 => ⟨s4, ?_⟩)⟩
        · rw [List.length_map]
          have := hG.2
          exact sz5' (by omega)
        · rw [upd_same, List.filter_cons, if_pos (by rw [decide_eq_true h1, decide_eq_true h2]; rfl), List.map_append]
          rfl
        · rw [List.filter_cons, if_neg (by rw [decide_eq_false h2, Bool.and_false]; exact Bool.false_ne_true), e4]
          simp
        · rw [List.filter_cons, if_neg (by rw [decide_eq_false h1, Bool.false_and]; exact Bool.false_ne_true), e4]
          simp
      · obtain ⟨s4, e4⟩ := hP
        rw [hln, List.take_length] at e4
        generalize hL : (F.map (·.b)).filter (fun b => decide (startOf F c < b) && decide (b < r)) = L at e4
        have hLl : L.length ≤ 1000 := by
          rw [← hL]
          refine Nat.le_trans (List.length_filter_le _ _) ?_
          rw [List.length_map]
          exact hG.2
        refine ⟨D, L, rfl, SqL.of e4, by omega, fun p2 n2 hp2 hn2 => ⟨p2, _, n2, rfl, upd_same, by omega, fun ms p3 hinc hmem hml hp3 => ?_⟩⟩
        have hM : Mids F (startOf F c) r ms := ⟨hinc, fun x => by
          rw [hmem x, decide_eq_true_eq, ← hL, List.mem_filter, List.mem_map, Bool.and_eq_true, decide_eq_true_eq, decide_eq_true_eq]
          constructor
          · rintro ⟨⟨f, hf, e⟩, h1, h2⟩
            exact ⟨h1, h2, f, hf, e⟩
          · rintro ⟨h1, h2, f, hf, e⟩
            exact ⟨⟨f, hf, e⟩, h1, h2⟩⟩
        have s5 : Same H3 (upd (upd H3 p2 (SetO w p2 (fun j => decide (j ∈ L)) n2)) p3 (.lst (ms.map V.int))) := (Same.new hp2).trans (Same.new hp3)
        have ep1 := s5 _ _ (s4 _ _ upd_same)
        have sH := (s3.trans s4).trans s5
        have hlt : startOf F c < r := by
          have := hR.ge
          omega
        have hms : ms.length ≤ 1000 := by omega
        have ep3 : (upd (upd H3 p2 (SetO w p2 (fun j => decide (j ∈ L)) n2)) p3 (.lst (ms.map V.int))) p3 = some (.lst (ms.map V.int)) := upd_same
        generalize upd (upd H3 p2 (SetO w p2 (fun j => decide (j ∈ L)) n2)) p3 (.lst (ms.map V.int)) = H4 at *
        refine ⟨p3, rfl, _, ep1, _, ep3, by rw [List.length_map, List.length_singleton]; exact sz5 (by omega), fun p4 hp4 => ⟨by decide, fun p5 hp5 => ⟨_, (Same.new hp5) _ _ upd_same, _, upd_same, ?_, fun p6 hp6 => ⟨Nat.zero_le _, fun p7 hp7 => ?_⟩⟩⟩⟩
        · rw [List.length_append, List.length_map, List.length_singleton, List.length_singleton]
          exact sz5 (by omega)
        have hrows : [V.int (startOf F c)] ++ ms.map V.int ++ [V.int r] = (startOf F c :: ms ++ [r]).map V.int := by
          rw [List.map_append, List.map_cons]
          rfl
        rw [hrows] at hp7 ⊢
        generalize hrs : startOf F c :: ms ++ [r] = rs at *
        have s6' := ((Same.new (o := .lst ([V.int (startOf F c)] ++ ms.map V.int)) hp4).trans (Same.new (o := .lst [V.int r]) hp5)).trans (Same.new (o := .lst (rs.map V.int)) hp6)
        have hf7 : H p7 = none := (sH.trans s6').free hp7
        have s6 := s6'.trans (Same.new (o := .lst []) hp7)
        clear s6'
        have e6 : upd (upd (upd (upd H4 p4 (.lst ([V.int (startOf F c)] ++ ms.map V.int))) p5 (.lst [V.int r])) p6 (.lst (rs.map V.int))) p7 (.lst []) p6 = some (.lst (rs.map V.int)) := (Same.new hp7) _ _ upd_same
        have e7 : upd (upd (upd (upd H4 p4 (.lst ([V.int (startOf F c)] ++ ms.map V.int))) p5 (.lst [V.int r])) p6 (.lst (rs.map V.int))) p7 (.lst []) p7 = some (.lst []) := upd_same
        generalize upd (upd (upd (upd H4 p4 (.lst ([V.int (startOf F c)] ++ ms.map V.int))) p5 (.lst [V.int r])) p6 (.lst (rs.map V.int))) p7 (.lst []) = H7 at *
        refine ⟨_, rfl, _, rfl, 1, rfl, p6, _, rfl, SqL.of e6, fun p8 hp8 => ?_⟩
        have hcut : cutV (rs.map V.int) (some 1) none = (ms ++ [r]).map V.int := by
          rw [← hrs]
          exact cut1
        rw [hcut]
        have s7 := (sH.trans s6).trans (Same.new (o := .lst ((ms ++ [r]).map V.int)) hp8)
        have hrl : rs.length = ms.length + 2 := by
          rw [← hrs]
          simp
        have e8 : upd H7 p8 (.lst ((ms ++ [r]).map V.int)) p6 = some (.lst (rs.map V.int)) := (Same.new hp8) _ _ e6
        have e9 : upd H7 p8 (.lst ((ms ++ [r]).map V.int)) p7 = some (.lst []) := (Same.new hp8) _ _ e7
        have e10 : upd H7 p8 (.lst ((ms ++ [r]).map V.int)) p8 = some (.lst ((ms ++ [r]).map V.int)) := upd_same
        have n78 : p7 ≠ p8 := fun z => by
          rw [z, e10] at e9
          have e9 := congrArg List.length (HO.lst.inj (Option.some.inj e9))
          simp at e9
        have n67 : p6 ≠ p7 := fun z => by
          rw [← z, e8] at e9
          have e9 := congrArg List.length (HO.lst.inj (Option.some.inj e9))
          simp [hrl] at e9
        generalize upd H7 p8 (.lst ((ms ++ [r]).map V.int)) = H8 at *
        refine ⟨p6, p8, _, _, rfl, SqL.of e8, SqL.of e10, for_it (walk_zip (xs := rs.map V.int) (ys := (ms ++ [r]).map V.int) (n := ms.length + 1) (by simp [hrl])) (fun i σ H1 => ∃ (ps : List Stp) (zs : List V) (b9 b10 b11 b12 : Option V), σ = [some (.ref a), some (.int width), some (.int c), some (.int wide), some (.str (S (sideT left))), some (.int r), some (.int (startOf F c)), some (.ref p6), some (.ref p7), b9, b10, b11, b12, none] ∧
          Same H H1 ∧ H1 p6 = some (.lst (rs.map V.int)) ∧ H1 p8 = some (.lst ((ms ++ [r]).map V.int)) ∧ H1 p7 = some (.lst zs) ∧ Reps (hide [p7] H1) (ps.map stpD) zs ∧ ps.length = i ∧ ∃ y, rs[i]? = some y ∧ runD F width wide (startOf F c) (ps.map stpD) = some y) ?_ ?_ ?_ ?_⟩
        · exact ⟨[], [], _, _, _, _, rfl, s7, e8, e10, e9, rfl, rfl, startOf F c, by rw [← hrs]; rfl, rfl⟩
        · rintro i σ H1 _ ⟨ps, zs, b9, b10, b11, b12, rfl, sm, k6, k8, k7, R, hl, y, hy, hrun⟩
          exact ⟨SqL.of k6, SqL.of k8⟩
        · rintro i x σ H1 H2' hi ⟨ps, zs, b9, b10, b11, b12, rfl, sm, k6, k8, k7, R, hl, y, hy, hrun⟩ ⟨T', x1, x2, rfl, hT, rfl, q1, q2⟩
          have q1 : (rs.map V.int)[i]? = some x1 := q1
          have q2 : ((ms ++ [r]).map V.int)[i]? = some x2 := q2
          rw [List.getElem?_map, hy] at q1
          have q1 := Option.some.inj q1
          subst q1
          rw [List.getElem?_map] at q2
          obtain ⟨z, hz, rfl⟩ := Option.map_eq_some_iff.mp q2
          have hz2 : rs[i + 1]? = some z := by
            rw [← hrs]
            exact hz
          have hstp : GoodS F width wide (tightS F width y z) := mids_step hM hlt (fun x h1 h2 => hR.least x h1 h2) (k := i) (by rw [hrs]; exact hy) (by rw [hrs]; exact hz2)
          (try simp only [cx_K, cx_w, rIn, rMulS, CwR.tReplC, tM1, tBM0, rPop, rExtend, rReverse, rLenS, rEqE, rNeE, rSetL, rIntI, rIntB, tBM, rAppend, rIxL, rIxT, rCat, rSlL, rSlS, gTup, tYes, wipe, tSeq, tAsg, tIfS, tRet, tRetN, tDrop, tNext, tBreak, tCont, tNever, tAug, ipI, tPar, tPar3, gName, gCons, gNil, gSub, tVar, tC, tOp, tUn, tIf, tAndV, tOrV, tNotV, tAnd, tOr, tNot, L2.tB, tTest, tCmp, tChain, tCB, tCons, tNil, tCall, tTup, tLst, tSl, tPart, tNoPart, rI, rI0, rU, rEq, rNe, scal_ii, scal_ss, scal_bb, scal_nn, scal_is, scal_si, rIxS, S_len, S_cps, S_inj, L2.start, List.map_cons, List.map_nil, List.cons_append, List.nil_append, List.append_nil, List.getElem?_cons_zero, List.getElem?_cons_succ, List.set_cons_zero, List.set_cons_succ, List.length_cons, List.length_nil, Nat.reduceAdd, Nat.reduceSub, List.replicate_succ, List.replicate_zero, Option.some.injEq, V.int.injEq, V.str.injEq, V.bl.injEq, V.ref.injEq, List.cons.injEq, and_true, true_and, exists_eq_left, exists_eq_left', exists_and_left, exists_eq, exists_eq', decide_eq_true_eq, Bool.not_eq_true', decide_eq_false_iff_not, Bool.false_eq_true, if_false, if_true, reduceIte, ite_self, CMul, CPow, CDiv])
          have sT : Same H1 (upd H1 T' (.tup [V.int y, V.int z])) := Same.new hT
          refine ⟨_, SqT.of upd_same, rfl, _, _, rfl, _, _, rfl, rfl, .ref a, F, width, y, rfl, ⟨a, xs, rfl, sT _ _ (sm _ _ ha), hX.mono (sm.trans sT)⟩, hG.2, fun t2 H4 s4 ht2 et2 => ⟨t2, rfl, _, SqT.of et2, rfl, _, _, rfl, _, _, rfl, rfl, .inl ⟨rfl, _, SqL.of (s4 _ _ (sT _ _ k7))⟩, by decide, fun t3 ht3 => ?_⟩⟩
          have s5 : Same H1 (upd H4 t3 (.tup [V.int y, V.int z, noV (tightOf F width y).1, noV (tightOf F width y).2])) := (sT.trans s4).trans (Same.new ht3)
          have zl := R.length
          rw [List.length_map] at zl
          refine ⟨zs, s5 _ _ k7, sz5' (by omega), ps ++ [tightS F width y z], zs ++ [.ref t3], _, _, _, _, ⟨rfl, rfl, rfl, rfl⟩, (sm.trans s5).mut hf7, ?_, ?_, upd_same, ?_, by rw [List.length_append, hl]; rfl, z, hz2, ?_⟩
          · rw [upd_ne n67]
            exact s5 _ _ k6
          · rw [upd_ne (Ne.symm n78)]
            exact s5 _ _ k8
          · have n3 : t3 ≠ p7 := fun e => by
              have h7 := s4 _ _ (sT _ _ k7)
              rw [← e, ht3] at h7
              cases h7
            rw [List.map_append]
            refine (R.mono (Kp.hide (s5.kp.trans Kp.at))).snoc ⟨t3, _, rfl, hide_some.mpr ⟨by simp [n3], by rw [upd_ne n3]; exact upd_same⟩, _, _, rfl, rfl, _, _, rfl, rfl, _, _, rfl, rep_opt _, _, _, rfl, rep_opt _, rfl⟩
          · rw [List.map_append, show [tightS F width y z].map stpD = [stpD (tightS F width y z)] from rfl, run_snoc _ _ _ _ hrun]
            exact str_good hstp
        · rintro σ H1 ⟨ps, zs, b9, b10, b11, b12, rfl, sm, k6, k8, k7, R, hl, y, hy, hrun⟩
          have hyr : y = r := by
            rw [← hrs] at hy
            simp at hy
            exact hy.symm
          subst hyr
          (try simp only [cx_K, cx_w, rIn, rMulS, CwR.tReplC, tM1, tBM0, rPop, rExtend, rReverse, rLenS, rEqE, rNeE, rSetL, rIntI, rIntB, tBM, rAppend, rIxL, rIxT, rCat, rSlL, rSlS, gTup, tYes, wipe, tSeq, tAsg, tIfS, tRet, tRetN, tDrop, tNext, tBreak, tCont, tNever, tAug, ipI, tPar, tPar3, gName, gCons, gNil, gSub, tVar, tC, tOp, tUn, tIf, tAndV, tOrV, tNotV, tAnd, tOr, tNot, L2.tB, tTest, tCmp, tChain, tCB, tCons, tNil, tCall, tTup, tLst, tSl, tPart, tNoPart, rI, rI0, rU, rEq, rNe, scal_ii, scal_ss, scal_bb, scal_nn, scal_is, scal_si, rIxS, S_len, S_cps, S_inj, L2.start, List.map_cons, List.map_nil, List.cons_append, List.nil_append, List.append_nil, List.getElem?_cons_zero, List.getElem?_cons_succ, List.set_cons_zero, List.set_cons_succ, List.length_cons, List.length_nil, Nat.reduceAdd, Nat.reduceSub, List.replicate_succ, List.replicate_zero, Option.some.injEq, V.int.injEq, V.str.injEq, V.bl.injEq, V.ref.injEq, List.cons.injEq, and_true, true_and, exists_eq_left, exists_eq_left', exists_and_left, exists_eq, exists_eq', decide_eq_true_eq, Bool.not_eq_true', decide_eq_false_iff_not, Bool.false_eq_true, if_false, if_true, reduceIte, ite_self, CMul, CPow, CDiv])
          exact q y ps p7 zs H1 hR hrun (by omega) sm hf7 k7 R
end
end K92


namespace K92
open PySem PySem.Spec PyProof.Rows L2 KB
section
variable {P : Program} {w : World} {K : PySem.W.Frag} {mg : Str → Option Value} {base : Heap}
def spWitness : Sp := fun vs H Q _ => ∃ v F width x d side top stop, vs = [v, .int width, x, .str (S (sideT side)), .int top, .int stop] ∧ Rep H (flsD F) v ∧ F.length ≤ 1000 ∧ Rep H d x ∧ ∀ H', Same H H' → Q (.bl (witD F width side top stop d)) H'
theorem wit_none {F : List Fl} {width : Int} {side : Bool} {top stop : Int} {d : D} (h1 : isNon d = false) (h2 : numD F d = none) : witD F width side top stop d = false := by
  unfold witD
  rw [h1, h2]
  rfl
theorem side_inj {a b : Bool} (h : V.str (S (sideT a)) = V.str (S (sideT b))) : a = b := by
  have h := S_inj.mp (V.str.inj h)
  cases a <;> cases b <;> first | rfl | (exact absurd h (by decide))
theorem okWitness (T : Top K w mg) : Ok P w K mg base CX0 2 "is_witness" ["floats", "width", "value", "side", "row", "stop"] spWitness := by
  have GIsNumber : Ok P w K mg base CX0 1 "is_number" ["value", "low", "high"] spNumber := okNumber T
  have GLeavesLess : Ok P w K mg base CX0 1 "leaves_less" ["one", "width"] spLess := okLess T
  have m_len := T.m_len
  refine mkOk T.f_is_witness scIsWitness (fun vs H Q E h => ?_) (fun f cdv A outer s H vs Q E hr h => ?_)
  · obtain ⟨_, _, _, _, _, _, _, _, rfl, _⟩ := h
    rfl
  · obtain ⟨v, F, width, x, d, side, top, stop, rfl, hF, hn, hd, q⟩ := h
    refine ⟨_, pss_cons (ps_if (pt_cmpR op_isN (pv 2) (pe_non) (nomark _))
  (pss_one (ps_ret (pe_bl)))
  (pss_nil))
  (pss_cons (ps_if (PW.pt (pw_or (pt_not (pt_val (pcall GIsNumber (hr.mono (by decide)) (by rfl) pass0 (pa_cons (pv 2) (pa_cons (pe_int) (pa_cons (pe_op op_sub (pe_callB (call_len_seqK (K := K) rfl) (by rfl) m_len PySem.boot_len (pa_cons (pv 0) pa_nil)) (pe_int)) pa_nil)))))) (pw_or1 (pt_cmpR op_ne (pe_ix ix_tup (pe_ix ix_list (pv 0) (pv 2) (fun _ _ => rfl)) (pe_int) (fun _ _ => rfl)) (pv 3) (nomark _)))))
  (pss_one (ps_ret (pe_bl)))
  (pss_nil))
  (pss_one (ps_ret (pe_and (pe_cmpR op_le (pe_ix ix_tup (pe_ix ix_list (pv 0) (pv 2) (fun _ _ => rfl)) (pe_int) (fun _ _ => rfl)) (pv 4) (nomark _)) (pe_and (pe_cmpR op_le (pv 5) (pe_ix ix_tup (pe_ix ix_list (pv 0) (pv 2) (fun _ _ => rfl)) (pe_int) (fun _ _ => rfl)) (nomark _)) (pe_one (pcall GLeavesLess (hr.mono (by decide)) (by rfl) pass0 (pa_cons (pe_ix ix_list (pv 0) (pv 2) (fun _ _ => rfl)) (pa_cons (pv 1) pa_nil))))))))), ?_⟩
    (try simp only [cx_K, cx_w, rIn, rMulS, CwR.tReplC, tM1, tBM0, rPop, rExtend, rReverse, rLenS, rEqE, rNeE, rSetL, rIntI, rIntB, tBM, rAppend, rIxL, rIxT, rCat, rSlL, rSlS, gTup, tYes, wipe, tSeq, tAsg, tIfS, tRet, tRetN, tDrop, tNext, tBreak, tCont, tNever, tAug, ipI, tPar, tPar3, gName, gCons, gNil, gSub, tVar, tC, tOp, tUn, tIf, tAndV, tOrV, tNotV, tAnd, tOr, tNot, L2.tB, tTest, tCmp, tChain, tCB, tCons, tNil, tCall, tTup, tLst, tSl, tPart, tNoPart, rI, rI0, rU, rEq, rNe, scal_ii, scal_ss, scal_bb, scal_nn, scal_is, scal_si, rIxS, S_len, S_cps, S_inj, L2.start, List.map_cons, List.map_nil, List.cons_append, List.nil_append, List.append_nil, List.getElem?_cons_zero, List.getElem?_cons_succ, List.set_cons_zero, List.set_cons_succ, List.length_cons, List.length_nil, Nat.reduceAdd, Nat.reduceSub, List.replicate_succ, List.replicate_zero, Option.some.injEq, V.int.injEq, V.str.injEq, V.bl.injEq, V.ref.injEq, List.cons.injEq, and_true, true_and, exists_eq_left, exists_eq_left', exists_and_left, exists_eq, exists_eq', decide_eq_true_eq, Bool.not_eq_true', decide_eq_false_iff_not, Bool.false_eq_true, if_false, if_true, reduceIte, ite_self, CMul, CPow, CDiv])
    obtain ⟨a, xs, rfl, ha, hX⟩ := hF
    have hln := hX.len2
    have hk := Rep.kd hd
    have bad : ∀ (L : List V), isNon d = false → numD F d = none → isNum x 0 (some ((L.length : Int) - 1)) = false → Q (.bl false) H := fun L h1 h2 _ => by
      have := q H (Same.refl _)
      rwa [wit_none h1 h2] at this
    cases d with
    | non =>
      have hd : x = .non := hd
      subst hd
      exact ite2 (fun _ => q H (Same.refl _)) (fun h => absurd rfl h)
    | int i =>
      have hd : x = .int i := hd
      subst hd
      refine ite2 (fun h => nomatch h) (fun _ => ⟨a, rfl, xs, .inl (SqL.of ha), _, _, _, _, rfl, hk, _, rfl, ?_⟩)
      show if (decide (0 ≤ i) && decide (i ≤ (xs.length : Int) - 1)) = false then _ else _
      by_cases hi : 0 ≤ i ∧ i < (F.length : Nat)
      · obtain ⟨k, rfl⟩ := Int.eq_ofNat_of_zero_le hi.1
        have hkl : k < F.length := by omega
        have hf : F[k]? = some F[k] := List.getElem?_eq_getElem hkl
        obtain ⟨t, e, et⟩ := fl_at hX hf
        have hn : numD F (.int (k : Nat)) = some k := by
          show (if 0 ≤ (k : Int) ∧ (k : Int) < (F.length : Nat) then some (k : Int).toNat else none) = some k
          rw [if_pos hi, Int.toNat_natCast]
        have hw : witD F width side top stop (.int (k : Nat)) = (decide (F[k].left = side) && (decide (F[k].t ≤ top) && (decide (stop ≤ F[k].b) && takes F[k] width))) := by
          unfold witD
          rw [hn]
          simp only [hf]
          rfl
        rw [hw] at q
        have rf : Rep H (flD F[k]) (.ref t) := ⟨t, _, rfl, et, _, _, rfl, rfl, _, _, rfl, rfl, _, _, rfl, rfl, _, _, rfl, rfl, _, _, rfl, rfl, rfl⟩
        refine ifF (fun z => ?_) ⟨a, rfl, xs, (k : Int), rfl, SqL.of ha, _, at_nat e, t, rfl, _, SqT.of et, _, at_nat (i := 0) rfl, rfl, ite2 (fun hs => ?_) (fun hs => ⟨a, rfl, xs, (k : Int), rfl, SqL.of ha, _, at_nat e, t, rfl, _, SqT.of et, _, at_nat (i := 3) rfl, _, rfl, ite2 (fun h1 => ⟨a, rfl, xs, (k : Int), rfl, SqL.of ha, _, at_nat e, t, rfl, _, SqT.of et, _, at_nat (i := 4) rfl, _, rfl, ite2 (fun h2 => ⟨a, rfl, xs, (k : Int), rfl, SqL.of ha, _, at_nat e, _, F[k], width, rfl, rf, ?_⟩) (fun h2 => ?_)⟩) (fun h1 => ?_)⟩)⟩
        · rw [Bool.and_eq_false_iff, decide_eq_false_iff_not, decide_eq_false_iff_not] at z
          omega
        · have hs : F[k].left ≠ side := fun e => hs (by rw [e])
          exact qb (q H (Same.refl _)) (by rw [decide_eq_false hs, Bool.false_and])
        · have hs : F[k].left = side := side_inj (Decidable.of_not_not hs)
          exact qb (q H (Same.refl _)) (by rw [decide_eq_true hs, decide_eq_true h1, decide_eq_true h2]; rfl)
        · have hs : F[k].left = side := side_inj (Decidable.of_not_not hs)
          exact qb (q H (Same.refl _)) (by rw [decide_eq_true hs, decide_eq_true h1, decide_eq_false h2]; rfl)
        · have hs : F[k].left = side := side_inj (Decidable.of_not_not hs)
          exact qb (q H (Same.refl _)) (by rw [decide_eq_true hs, decide_eq_false h1]; rfl)
      · refine ifT ?_ (bad xs rfl ?_ ?_)
        · rw [Bool.and_eq_false_iff, decide_eq_false_iff_not, decide_eq_false_iff_not]
          omega
        · show (if 0 ≤ i ∧ i < (F.length : Nat) then some i.toNat else none) = none
          rw [if_neg hi]
        · show (decide (0 ≤ i) && decide (i ≤ (xs.length : Int) - 1)) = false
          rw [Bool.and_eq_false_iff, decide_eq_false_iff_not, decide_eq_false_iff_not]
          omega
    | bl b =>
      have hd : x = .bl b := hd
      subst hd
      exact ite2 (fun h => nomatch h) (fun _ => ⟨a, rfl, xs, .inl (SqL.of ha), _, _, _, _, rfl, hk, _, rfl, ifT rfl (bad xs rfl rfl rfl)⟩)
    | str b =>
      have hd : x = .str (S b) := hd
      subst hd
      exact ite2 (fun h => nomatch h) (fun _ => ⟨a, rfl, xs, .inl (SqL.of ha), _, _, _, _, rfl, hk, _, rfl, ifT rfl (bad xs rfl rfl rfl)⟩)
    | tup b =>
      obtain ⟨_, _, rfl, _⟩ := hd
      exact ite2 (fun h => nomatch h) (fun _ => ⟨a, rfl, xs, .inl (SqL.of ha), _, _, _, _, rfl, hk, _, rfl, ifT rfl (bad xs rfl rfl rfl)⟩)
    | lst b =>
      obtain ⟨_, _, rfl, _⟩ := hd
      exact ite2 (fun h => nomatch h) (fun _ => ⟨a, rfl, xs, .inl (SqL.of ha), _, _, _, _, rfl, hk, _, rfl, ifT rfl (bad xs rfl rfl rfl)⟩)
theorem wit_num {F : List Fl} {width top stop : Int} {side : Bool} {d : D} (h : witD F width side top stop d = true) (hn : isNon d = false) : ∃ (k : Nat) (f : Fl), d = .int (k : Nat) ∧ F[k]? = some f ∧ numD F d = some k := by
  unfold witD at h
  rw [hn, Bool.false_or] at h
  cases hk : numD F d with
  | none => rw [hk] at h; cases h
  | some k =>
    rw [hk] at h
    cases hf : F[k]? with
    | none => simp only [hf] at h; cases h
    | some f =>
      refine ⟨k, f, ?_, hf, rfl⟩
      cases d with
      | int i =>
        unfold numD at hk
        simp only at hk
        split at hk
        · rename_i hi
          have := Option.some.inj hk
          congr 1
          omega
        · cases hk
      | _ => cases hk
def spStretch : Sp := fun vs H Q _ => ∃ v F width wide x d row, vs = [v, .int width, .int wide, x, .int row] ∧ Rep H (flsD F) v ∧ F.length ≤ 1000 ∧ Rep H d x ∧ ∀ H', Same H H' → Q (.bl (strD F width wide row d).isSome) H'
theorem okStretch (T : Top K w mg) : Ok P w K mg base CX0 3 "is_stretch" ["floats", "width", "w", "value", "row"] spStretch := by
  have GIsWholePapers : Ok P w K mg base CX0 1 "is_whole_papers" ["value"] spWhole := okWholePapers T
  have GIsWitness : Ok P w K mg base CX0 2 "is_witness" ["floats", "width", "value", "side", "row", "stop"] spWitness := okWitness T
  have m_isinstance := T.m_isinstance
  have m_tuple := T.m_tuple
  have m_len := T.m_len
  refine mkOk T.f_is_stretch scIsStretch (fun vs H Q E h => ?_) (fun f cdv A outer s H vs Q E hr h => ?_)
  · obtain ⟨_, _, _, _, _, _, _, rfl, _⟩ := h
    rfl
  · obtain ⟨v, F, width, wide, x, d, row, rfl, hF, hn, hd, q⟩ := h
    refine ⟨_, pss_cons (ps_if (PW.pt (pw_or (pt_not (pt_val (pe_callB call_isi (by rfl) m_isinstance (by decide +kernel) (pa_cons (pv 3) (pa_cons (pe_bltn (u := .type "tuple") (v := .ty "tuple") (by rfl) m_tuple (by decide +kernel) rfl) pa_nil))))) (pw_or (pt_cmpR op_ne (pe_callB (call_len_seqK (K := K) rfl) (by rfl) m_len PySem.boot_len (pa_cons (pv 3) pa_nil)) (pe_int) (nomark _)) (pw_or (pt_not (pt_val (pcall GIsWholePapers (hr.mono (by decide)) (by rfl) pass0 (pa_cons (pe_ix ix_seq (pv 3) (pe_int) (fun _ _ => rfl)) pa_nil)))) (pw_or1 (pt_not (pt_val (pcall GIsWholePapers (hr.mono (by decide)) (by rfl) pass0 (pa_cons (pe_ix ix_seq (pv 3) (pe_int) (fun _ _ => rfl)) pa_nil)))))))))
  (pss_one (ps_ret (pe_bl)))
  (pss_nil))
  (pss_cons (ps_asg (pv 3) (pg_tup (n := 4) rfl (pgs_cons (pg_name (i := 5) scIsStretch.nd rfl (Or.inl rfl)) (pgs_cons (pg_name (i := 6) scIsStretch.nd rfl (Or.inl rfl)) (pgs_cons (pg_name (i := 7) scIsStretch.nd rfl (Or.inl rfl)) (pgs_cons (pg_name (i := 8) scIsStretch.nd rfl (Or.inl rfl)) pgs_nil))))))
  (pss_cons (ps_if (PW.pt (pw_or (pt_cmpR op_ne (pv 5) (pv 4) (nomark _)) (pw_or (pt_cmpR op_le (pv 6) (pv 5) (nomark _)) (pw_or1 (PW.pt (pw_and (pt_cmpR op_isN (pv 7) (pe_non) (nomark _)) (pw_and1 (pt_cmpR op_isN (pv 8) (pe_non) (nomark _)))))))))
  (pss_one (ps_ret (pe_bl)))
  (pss_nil))
  (pss_cons (ps_if (PW.pt (pw_or (pt_not (pt_val (pcall GIsWitness (hr.mono (by decide)) (by rfl) pass0 (pa_cons (pv 0) (pa_cons (pv 1) (pa_cons (pv 7) (pa_cons (pe_str) (pa_cons (pv 5) (pa_cons (pv 6) pa_nil))))))))) (pw_or1 (pt_not (pt_val (pcall GIsWitness (hr.mono (by decide)) (by rfl) pass0 (pa_cons (pv 0) (pa_cons (pv 1) (pa_cons (pv 8) (pa_cons (pe_str) (pa_cons (pv 5) (pa_cons (pv 6) pa_nil))))))))))))
  (pss_one (ps_ret (pe_bl)))
  (pss_nil))
  (pss_cons (ps_set (i := 9) scIsStretch.nd rfl (Or.inl rfl) (pe_ifExp (pt_cmpR op_isN (pv 7) (pe_non) (nomark _)) (pe_int) (pe_ix ix_tup (pe_ix ix_list (pv 0) (pv 7) (fun _ _ => rfl)) (pe_int) (fun _ _ => rfl))))
  (pss_cons (ps_set (i := 10) scIsStretch.nd rfl (Or.inl rfl) (pe_ifExp (pt_cmpR op_isN (pv 8) (pe_non) (nomark _)) (pv 1) (pe_ix ix_tup (pe_ix ix_list (pv 0) (pv 8) (fun _ _ => rfl)) (pe_int) (fun _ _ => rfl))))
  (pss_one (ps_ret (pe_cmpR op_lt (pe_op op_sub (pv 10) (pv 9)) (pv 2) (nomark _))))))))), ?_⟩
    (try simp only [cx_K, cx_w, rIn, rMulS, CwR.tReplC, tM1, tBM0, rPop, rExtend, rReverse, rLenS, rEqE, rNeE, rSetL, rIntI, rIntB, tBM, rAppend, rIxL, rIxT, rCat, rSlL, rSlS, gTup, tYes, wipe, tSeq, tAsg, tIfS, tRet, tRetN, tDrop, tNext, tBreak, tCont, tNever, tAug, ipI, tPar, tPar3, gName, gCons, gNil, gSub, tVar, tC, tOp, tUn, tIf, tAndV, tOrV, tNotV, tAnd, tOr, tNot, L2.tB, tTest, tCmp, tChain, tCB, tCons, tNil, tCall, tTup, tLst, tSl, tPart, tNoPart, rI, rI0, rU, rEq, rNe, scal_ii, scal_ss, scal_bb, scal_nn, scal_is, scal_si, rIxS, S_len, S_cps, S_inj, L2.start, List.map_cons, List.map_nil, List.cons_append, List.nil_append, List.append_nil, List.getElem?_cons_zero, List.getElem?_cons_succ, List.set_cons_zero, List.set_cons_succ, List.length_cons, List.length_nil, Nat.reduceAdd, Nat.reduceSub, List.replicate_succ, List.replicate_zero, Option.some.injEq, V.int.injEq, V.str.injEq, V.bl.injEq, V.ref.injEq, List.cons.injEq, and_true, true_and, exists_eq_left, exists_eq_left', exists_and_left, exists_eq, exists_eq', decide_eq_true_eq, Bool.not_eq_true', decide_eq_false_iff_not, Bool.false_eq_true, if_false, if_true, reduceIte, ite_self, CMul, CPow, CDiv])
    obtain ⟨a, xs, rfl, ha, hX⟩ := hF
    have hln := hX.len2
    have hk := Rep.kd hd
    have no : strD F width wide row d = none → Q (.bl false) H := fun e => qb (q H (Same.refl _)) (by rw [e]; rfl)
    cases d with
    | non => exact isk .tup (by decide) hk ⟨_, rfl, ite2 (fun _ => no rfl) (fun h => absurd rfl h)⟩
    | bl b => exact isk .tup (by decide) hk ⟨_, rfl, ite2 (fun _ => no rfl) (fun h => absurd rfl h)⟩
    | int b => exact isk .tup (by decide) hk ⟨_, rfl, ite2 (fun _ => no rfl) (fun h => absurd rfl h)⟩
    | str b => exact isk .tup (by decide) hk ⟨_, rfl, ite2 (fun _ => no rfl) (fun h => absurd rfl h)⟩
    | lst b => exact isk .tup (by decide) hk ⟨_, rfl, ite2 (fun _ => no rfl) (fun h => absurd rfl h)⟩
    | tup ds =>
      refine isk .tup (by decide) hk ⟨_, rfl, ite2 (fun h => absurd h (show ¬ (isKd .tup .tup = false) by decide)) (fun _ => ?_)⟩
      obtain ⟨t, ys, rfl, g, hR⟩ := hd
      have hln2 := hR.length
      refine ⟨t, rfl, ys, .inr (SqT.of g), ite2 (fun h4 => no ?_) (fun h4 => ?_)⟩
      · match ds, hln2 with
        | [], _ => rfl
        | [_], _ => rfl
        | [_, _], _ => rfl
        | [_, _, _], _ => rfl
        | [_, _, _, _], hln => exact absurd (by rw [hln]; rfl) h4
        | _ :: _ :: _ :: _ :: _ :: _, _ => rfl
      · have h4 : ds.length = 4 := by
          have : ((ys.length : Nat) : Int) = 4 := Decidable.of_not_not h4
          omega
        obtain ⟨d0, d1, d2, d3, rfl⟩ : ∃ d0 d1 d2 d3, ds = [d0, d1, d2, d3] := by
          match ds, h4 with
          | [d0, d1, d2, d3], _ => exact ⟨d0, d1, d2, d3, rfl⟩
        obtain ⟨x0, _, rfl, r0, x1, _, rfl, r1, x2, _, rfl, r2, x3, _, rfl, r3, rfl⟩ := hR
        refine .inr (.inl ⟨t, _, 0, _, rfl, rfl, SqT.of g, at_nat (i := 0) rfl, x0, _, rfl, Rep.kd r0, _, rfl, ite2 (fun h0 => no ?_) (fun h0 => ?_)⟩)
        · cases d0 <;> first | rfl | exact absurd h0 Bool.noConfusion
        obtain ⟨top, rfl⟩ : ∃ i, d0 = .int i := by
          cases d0 <;> first | exact ⟨_, rfl⟩ | exact absurd rfl h0
        have r0 : x0 = .int top := r0
        subst r0
        refine .inr (.inl ⟨t, _, 1, _, rfl, rfl, SqT.of g, at_nat (i := 1) rfl, x1, _, rfl, Rep.kd r1, _, rfl, ite2 (fun h1 => no ?_) (fun h1 => ?_)⟩)
        · cases d1 <;> first | rfl | exact absurd h1 Bool.noConfusion
        obtain ⟨stop, rfl⟩ : ∃ i, d1 = .int i := by
          cases d1 <;> first | exact ⟨_, rfl⟩ | exact absurd rfl h1
        have r1 : x1 = .int stop := r1
        subst r1
        refine ⟨t, rfl, _, SqT.of g, rfl, _, _, rfl, _, _, rfl, _, _, rfl, _, _, rfl, rfl, ?_⟩
        (try simp only [cx_K, cx_w, rIn, rMulS, CwR.tReplC, tM1, tBM0, rPop, rExtend, rReverse, rLenS, rEqE, rNeE, rSetL, rIntI, rIntB, tBM, rAppend, rIxL, rIxT, rCat, rSlL, rSlS, gTup, tYes, wipe, tSeq, tAsg, tIfS, tRet, tRetN, tDrop, tNext, tBreak, tCont, tNever, tAug, ipI, tPar, tPar3, gName, gCons, gNil, gSub, tVar, tC, tOp, tUn, tIf, tAndV, tOrV, tNotV, tAnd, tOr, tNot, L2.tB, tTest, tCmp, tChain, tCB, tCons, tNil, tCall, tTup, tLst, tSl, tPart, tNoPart, rI, rI0, rU, rEq, rNe, scal_ii, scal_ss, scal_bb, scal_nn, scal_is, scal_si, rIxS, S_len, S_cps, S_inj, L2.start, List.map_cons, List.map_nil, List.cons_append, List.nil_append, List.append_nil, List.getElem?_cons_zero, List.getElem?_cons_succ, List.set_cons_zero, List.set_cons_succ, List.length_cons, List.length_nil, Nat.reduceAdd, Nat.reduceSub, List.replicate_succ, List.replicate_zero, Option.some.injEq, V.int.injEq, V.str.injEq, V.bl.injEq, V.ref.injEq, List.cons.injEq, and_true, true_and, exists_eq_left, exists_eq_left', exists_and_left, exists_eq, exists_eq', decide_eq_true_eq, Bool.not_eq_true', decide_eq_false_iff_not, Bool.false_eq_true, if_false, if_true, reduceIte, ite_self, CMul, CPow, CDiv])
        have no' : ∀ H1, Same H H1 → strD F width wide row (.tup [.int top, .int stop, d2, d3]) = none → Q (.bl false) H1 := fun H1 s1 e => qb (q H1 s1) (by rw [e]; rfl)
        have hstr : strD F width wide row (.tup [.int top, .int stop, d2, d3]) = if top = row ∧ top < stop ∧ (isNon d2 && isNon d3) = false ∧ witD F width true top stop d2 = true ∧ witD F width false top stop d3 = true ∧ highN F width (numD F d3) - lowN F (numD F d2) < wide then some stop else none := rfl
        refine ite2 (fun h1 => no ?_) (fun h1 => ite2 (fun h2 => no ?_) (fun h2 => ?_))
        · rw [hstr, if_neg (fun z => h1 z.1)]
        · rw [hstr, if_neg (fun z => by omega)]
        have h1 : top = row := Decidable.of_not_not h1
        have hx2 : (d2 = .non ∧ x2 = .non) ∨ (isNon d2 = false ∧ x2 ≠ .non) := by
          cases d2 with
          | non => exact .inl ⟨rfl, r2⟩
          | bl b => exact .inr ⟨rfl, fun z => by rw [z] at r2; cases r2⟩
          | int b => exact .inr ⟨rfl, fun z => by rw [z] at r2; cases r2⟩
          | str b => exact .inr ⟨rfl, fun z => by rw [z] at r2; cases r2⟩
          | tup b => exact .inr ⟨rfl, fun z => by rw [z] at r2; obtain ⟨_, _, e, _⟩ := r2; cases e⟩
          | lst b => exact .inr ⟨rfl, fun z => by rw [z] at r2; obtain ⟨_, _, e, _⟩ := r2; cases e⟩
        have hx3 : (d3 = .non ∧ x3 = .non) ∨ (isNon d3 = false ∧ x3 ≠ .non) := by
          cases d3 with
          | non => exact .inl ⟨rfl, r3⟩
          | bl b => exact .inr ⟨rfl, fun z => by rw [z] at r3; cases r3⟩
          | int b => exact .inr ⟨rfl, fun z => by rw [z] at r3; cases r3⟩
          | str b => exact .inr ⟨rfl, fun z => by rw [z] at r3; cases r3⟩
          | tup b => exact .inr ⟨rfl, fun z => by rw [z] at r3; obtain ⟨_, _, e, _⟩ := r3; cases e⟩
          | lst b => exact .inr ⟨rfl, fun z => by rw [z] at r3; obtain ⟨_, _, e, _⟩ := r3; cases e⟩
        have main : (isNon d2 && isNon d3) = false → witD F width true top stop d2 = true → witD F width false top stop d3 = true → ∀ H1 y, Same H H1 → y = highN F width (numD F d3) - lowN F (numD F d2) → Q (.bl (decide (y < wide))) H1 := fun hb hw2 hw3 H1 y s1 e => by
          refine qb (q H1 s1) ?_
          rw [hstr, e]
          by_cases hlt : highN F width (numD F d3) - lowN F (numD F d2) < wide
          · rw [if_pos ⟨h1, by omega, hb, hw2, hw3, hlt⟩, decide_eq_true hlt]
            rfl
          · rw [if_neg (fun z => hlt z.2.2.2.2.2), decide_eq_false hlt]
            rfl
        have hlow : ∀ {k f}, F[k]? = some f → numD F d2 = some k → lowN F (numD F d2) = f.r := fun {k f} e1 e2 => by rw [e2]; simp only [lowN, e1]
        have hhigh : ∀ {k f}, F[k]? = some f → numD F d3 = some k → highN F width (numD F d3) = f.l := fun {k f} e1 e2 => by rw [e2]; simp only [highN, e1]
        have nw2 : witD F width true top stop d2 = false → strD F width wide row (.tup [.int top, .int stop, d2, d3]) = none := fun e => by rw [hstr, if_neg (fun z => by rw [e] at z; exact absurd z.2.2.2.1 Bool.false_ne_true)]
        have nw3 : witD F width false top stop d3 = false → strD F width wide row (.tup [.int top, .int stop, d2, d3]) = none := fun e => by rw [hstr, if_neg (fun z => by rw [e] at z; exact absurd z.2.2.2.2.1 Bool.false_ne_true)]
        have gt : ∀ b : Bool, ¬ b = false → b = true := fun b h => by cases b <;> first | rfl | exact absurd rfl h
        rcases hx2 with ⟨rfl, e2⟩ | ⟨n2, e2⟩
        · rcases hx3 with ⟨rfl, e3⟩ | ⟨n3, e3⟩
          · exact ifT e2 (ifT e3 (no (by rw [hstr, if_neg (fun z => absurd z.2.2.1 (by decide))])))
          · refine ifT e2 (ifF e3 ⟨.ref a, F, width, x2, .non, true, top, stop, rfl, ⟨a, xs, rfl, ha, hX⟩, hn, r2, fun H1 s1 => ⟨_, rfl, ite2 (fun hw2 => no' H1 s1 (nw2 hw2)) (fun hw2 => ⟨.ref a, F, width, x3, d3, false, top, stop, rfl, ⟨a, xs, rfl, s1 _ _ ha, hX.mono s1⟩, hn, r3.mono s1, fun H2 s2 => ⟨_, rfl, ite2 (fun hw3 => no' H2 (s1.trans s2) (nw3 hw3)) (fun hw3 => ?_)⟩⟩)⟩⟩)
            obtain ⟨k, f, rfl, ek, en⟩ := wit_num (gt _ hw3) n3
            have r3 : x3 = .int (k : Nat) := r3
            obtain ⟨t2, et, ht2⟩ := fl_at hX ek
            have s12 := s1.trans s2
            exact ifT e2 (ifF e3 ⟨xs, _, r3, SqL.of (s12 _ _ ha), _, at_nat et, t2, rfl, _, SqT.of (s12 _ _ ht2), _, at_nat (i := 1) rfl, _, rfl, main (by rw [n3]; rfl) (gt _ hw2) (gt _ hw3) H2 _ s12 (by rw [hhigh ek en]; rfl)⟩)
        · refine ifF e2 ⟨.ref a, F, width, x2, d2, true, top, stop, rfl, ⟨a, xs, rfl, ha, hX⟩, hn, r2, fun H1 s1 => ⟨_, rfl, ite2 (fun hw2 => no' H1 s1 (nw2 hw2)) (fun hw2 => ⟨.ref a, F, width, x3, d3, false, top, stop, rfl, ⟨a, xs, rfl, s1 _ _ ha, hX.mono s1⟩, hn, r3.mono s1, fun H2 s2 => ⟨_, rfl, ite2 (fun hw3 => no' H2 (s1.trans s2) (nw3 hw3)) (fun hw3 => ?_)⟩⟩)⟩⟩
          obtain ⟨k, f, rfl, ek, en⟩ := wit_num (gt _ hw2) n2
          have r2 : x2 = .int (k : Nat) := r2
          obtain ⟨t2, et, ht2⟩ := fl_at hX ek
          have s12 := s1.trans s2
          refine ifF e2 ⟨xs, _, r2, SqL.of (s12 _ _ ha), _, at_nat et, t2, rfl, _, SqT.of (s12 _ _ ht2), _, at_nat (i := 2) rfl, ?_⟩
          rcases hx3 with ⟨rfl, e3⟩ | ⟨n3, e3⟩
          · exact ifT e3 ⟨_, rfl, main (by rfl) (gt _ hw2) (gt _ hw3) H2 _ s12 (by rw [hlow ek en]; rfl)⟩
          · obtain ⟨k', f', rfl, ek', en'⟩ := wit_num (gt _ hw3) n3
            have r3 : x3 = .int (k' : Nat) := r3
            obtain ⟨t3, et', ht3⟩ := fl_at hX ek'
            exact ifF e3 ⟨xs, _, r3, SqL.of (s12 _ _ ha), _, at_nat et', t3, rfl, _, SqT.of (s12 _ _ ht3), _, at_nat (i := 1) rfl, _, rfl, _, rfl, main (by rfl) (gt _ hw2) (gt _ hw3) H2 _ s12 (by rw [hlow ek en, hhigh ek' en'])⟩
end
end K92


namespace K92
open PySem PySem.Spec PyProof.Rows L2 KB
section
variable {P : Program} {w : World} {K : PySem.W.Frag} {mg : Str → Option Value} {base : Heap}
/-- any value: data, or an empty dict -/
def RepO (G : Hp) : Option D → V → Prop
  | some d, v => Rep G d v
  | none, v => ∃ a, v = .ref a ∧ G a = some (.dK [])
theorem RepO.mono {G G' : Hp} (s : Same G G') : ∀ {d : Option D} {v : V}, RepO G d v → RepO G' d v
  | some _, _, h => Rep.mono s h
  | none, _, ⟨a, e, h⟩ => ⟨a, e, s _ _ h⟩
def kdO : Option D → Kd
  | some d => kdD d
  | none => .dct
theorem RepO.kd {G : Hp} : ∀ {d : Option D} {v : V}, RepO G d v → KdOf G v (kdO d)
  | some _, _, h => Rep.kd h
  | none, _, ⟨a, e, h⟩ => e ▸ .dct h
theorem run_app {F : List Fl} {width w : Int} : ∀ (as bs : List D) (row : Int), runD F width w row (as ++ bs) = match runD F width w row as with
    | some r => runD F width w r bs
    | none => none
  | [], _, _ => rfl
  | d :: as, bs, row => by
    show (match strD F width w row d with | some r => runD F width w r (as ++ bs) | none => none) = match (match strD F width w row d with | some r => runD F width w r as | none => none) with | some r => runD F width w r bs | none => none
    cases strD F width w row d with
    | none => rfl
    | some r => exact run_app as bs r
theorem str_shape {F : List Fl} {width w row stop : Int} {d : D} (h : strD F width w row d = some stop) : ∃ d0 i j, d = .tup [d0, .int stop, i, j] := by
  unfold strD at h
  split at h
  · rename_i d0 d1 i j
    unfold strD4 at h
    split at h
    · split at h
      · cases h
        exact ⟨_, _, _, rfl⟩
      · cases h
    · cases h
  · cases h
theorem Reps.at_ {G : Hp} {ds : List D} {xs : List V} {i : Nat} {x : V} (h : Reps G ds xs) (hx : xs[i]? = some x) : ∃ d, ds[i]? = some d ∧ Rep G d x := h.get hx
def spIs : Sp := fun vs H Q _ => ∃ v F width c wide left xp xv op ov, vs = [v, .int width, .int c, .int wide, .str (S (sideT left)), xp, xv] ∧ Rep H (flsD F) v ∧ Good F ∧ 0 ≤ width ∧ 0 ≤ wide ∧ RepO H op xp ∧ RepO H ov xv ∧
  ∀ (r : Int) (H' : Hp), IsRow F 0 width wide (startOf F c) r → Same H H' → Q (.bl (isPlace (atOf F 0 width wide left r) r op && rightD F width wide (startOf F c) r ov)) H'
theorem okIs (T : Top K w mg) : Ok P w K mg base CX0 6 "is_float_paper" ["floats", "width", "ceiling", "w", "side", "place", "value"] spIs := by
  have GFloatAt : Ok P w K mg base CX0 5 "float_at" ["floats", "width", "ceiling", "w", "side"] spAt := okAt T
  have GFirstRowPapers : Ok P w K mg base CX0 1 "first_row_papers" ["floats", "ceiling"] spFirstP := okFirstP T
  have GIsWholePapers : Ok P w K mg base CX0 1 "is_whole_papers" ["value"] spWhole := okWholePapers T
  have GIsStretch : Ok P w K mg base CX0 3 "is_stretch" ["floats", "width", "w", "value", "row"] spStretch := okStretch T
  have m_isinstance := T.m_isinstance
  have m_tuple := T.m_tuple
  have m_list := T.m_list
  have m_len := T.m_len
  refine mkOk T.f_is_float_paper scIsFloatPaper (fun vs H Q E h => ?_) (fun f cdv A outer s H vs Q E hr h => ?_)
  · obtain ⟨_, _, _, _, _, _, _, _, _, _, rfl, _⟩ := h
    rfl
  · obtain ⟨v, F, width, c, wide, left, xp, xv, op, ov, rfl, hF, hG, hw, hwd, hp, hv, q⟩ := h
    refine ⟨_, pss_cons (ps_set (i := 7) scIsFloatPaper.nd rfl (Or.inl rfl) (pcall GFloatAt (hr.mono (by decide)) (by rfl) pass0 (pa_cons (pv 0) (pa_cons (pv 1) (pa_cons (pv 2) (pa_cons (pv 3) (pa_cons (pv 4) pa_nil)))))))
  (pss_cons (ps_if (PW.pt (pw_or (pt_not (pt_val (pe_callB call_isi (by rfl) m_isinstance (by decide +kernel) (pa_cons (pv 5) (pa_cons (pe_bltn (u := .type "tuple") (v := .ty "tuple") (by rfl) m_tuple (by decide +kernel) rfl) pa_nil))))) (pw_or (pt_cmpR op_ne (pe_callB (call_len_seqK (K := K) rfl) (by rfl) m_len PySem.boot_len (pa_cons (pv 5) pa_nil)) (pe_int) (nomark _)) (pw_or (pt_not (pt_val (pcall GIsWholePapers (hr.mono (by decide)) (by rfl) pass0 (pa_cons (pe_ix ix_seq (pv 5) (pe_int) (fun _ _ => rfl)) pa_nil)))) (pw_or1 (pt_not (pt_val (pcall GIsWholePapers (hr.mono (by decide)) (by rfl) pass0 (pa_cons (pe_ix ix_seq (pv 5) (pe_int) (fun _ _ => rfl)) pa_nil)))))))))
  (pss_one (ps_ret (pe_bl)))
  (pss_nil))
  (pss_cons (ps_if (PW.pt (pw_or (pt_cmpR (op_neD hr.units) (pv 5) (pv 7) (nomark _)) (pw_or1 (pt_not (pt_val (pe_callB call_isi (by rfl) m_isinstance (by decide +kernel) (pa_cons (pv 6) (pa_cons (pe_bltn (u := .type "list") (v := .ty "list") (by rfl) m_list (by decide +kernel) rfl) pa_nil))))))))
  (pss_one (ps_ret (pe_bl)))
  (pss_nil))
  (pss_cons (ps_set (i := 8) scIsFloatPaper.nd rfl (Or.inl rfl) (pcall GFirstRowPapers (hr.mono (by decide)) (by rfl) pass0 (pa_cons (pv 0) (pa_cons (pv 2) pa_nil))))
  (pss_cons (ps_for PassesOwn.never rfl (pi_list (pv 6)) (pg_name (i := 9) scIsFloatPaper.nd rfl (Or.inl rfl))
  (pss_cons (ps_if (pt_not (pt_val (pcall GIsStretch (hr.mono (by decide)) (by rfl) pass0 (pa_cons (pv 0) (pa_cons (pv 1) (pa_cons (pv 3) (pa_cons (pv 9) (pa_cons (pv 8) pa_nil))))))))
  (pss_one (ps_ret (pe_bl)))
  (pss_nil))
  (pss_one (ps_set (i := 8) scIsFloatPaper.nd rfl (Or.inl rfl) (pe_ix ix_seq (pv 9) (pe_int) (fun _ _ => rfl))))))
  (pss_one (ps_ret (pe_cmpR op_eq (pv 8) (pe_ix ix_tup (pv 7) (pe_int) (fun _ _ => rfl)) (nomark _)))))))), ?_⟩
    (try simp only [cx_K, cx_w, rIn, rMulS, CwR.tReplC, tM1, tBM0, rPop, rExtend, rReverse, rLenS, rEqE, rNeE, rSetL, rIntI, rIntB, tBM, rAppend, rIxL, rIxT, rCat, rSlL, rSlS, gTup, tYes, wipe, tSeq, tAsg, tIfS, tRet, tRetN, tDrop, tNext, tBreak, tCont, tNever, tAug, ipI, tPar, tPar3, gName, gCons, gNil, gSub, tVar, tC, tOp, tUn, tIf, tAndV, tOrV, tNotV, tAnd, tOr, tNot, L2.tB, tTest, tCmp, tChain, tCB, tCons, tNil, tCall, tTup, tLst, tSl, tPart, tNoPart, rI, rI0, rU, rEq, rNe, scal_ii, scal_ss, scal_bb, scal_nn, scal_is, scal_si, rIxS, S_len, S_cps, S_inj, L2.start, List.map_cons, List.map_nil, List.cons_append, List.nil_append, List.append_nil, List.getElem?_cons_zero, List.getElem?_cons_succ, List.set_cons_zero, List.set_cons_succ, List.length_cons, List.length_nil, Nat.reduceAdd, Nat.reduceSub, List.replicate_succ, List.replicate_zero, Option.some.injEq, V.int.injEq, V.str.injEq, V.bl.injEq, V.ref.injEq, List.cons.injEq, and_true, true_and, exists_eq_left, exists_eq_left', exists_and_left, exists_eq, exists_eq', decide_eq_true_eq, Bool.not_eq_true', decide_eq_false_iff_not, Bool.false_eq_true, if_false, if_true, reduceIte, ite_self, CMul, CPow, CDiv])
    refine ⟨v, F, width, c, wide, left, rfl, hF, hG, hw, hwd, fun ns t H1 hB s1 ht et => ?_⟩
    have hR := row_is (lo := 0) (hi := width) (w := wide) (tops_start (c := c) hG.sorted) hB
    generalize hr0 : rowOf F 0 width c wide ns = r at *
    have hr0 : firstOf F 0 width wide (startOf F c) (startOf F c :: ns) = r := hr0
    rw [hr0] at hR
    have q := fun H' => q r H' hR
    have hk := (hp.mono s1).kd
    have no : ∀ H', Same H H' → isPlace (atOf F 0 width wide left r) r op = false → Q (.bl false) H' := fun H' s e => qb (q H' s) (by rw [e]; rfl)
    have nov : ∀ H', Same H H' → rightD F width wide (startOf F c) r ov = false → Q (.bl false) H' := fun H' s e => qb (q H' s) (by rw [e, Bool.and_false])
    have notT : kdO op ≠ .tup → isPlace (atOf F 0 width wide left r) r op = false := fun h => by
      cases op with
      | none => rfl
      | some d => cases d <;> first | rfl | exact absurd rfl h
    by_cases hkt : kdO op = .tup
    · obtain ⟨ds, rfl⟩ : ∃ ds, op = some (.tup ds) := by
        cases op with
        | none => cases hkt
        | some d => cases d <;> first | exact ⟨_, rfl⟩ | cases hkt
      refine isk .tup (by decide) hk ⟨_, rfl, ite2 (fun h => absurd h (show ¬ (isKd .tup .tup = false) by decide)) (fun _ => ?_)⟩
      obtain ⟨tp, ys, rfl, g, hRp⟩ := hp
      have hln2 := hRp.length
      refine ⟨tp, rfl, ys, .inr (SqT.of (s1 _ _ g)), ite2 (fun h2 => no _ s1 ?_) (fun h2 => ?_)⟩
      · match ds, hln2 with
        | [], _ => rfl
        | [a], _ => cases a <;> rfl
        | [_, _], hln => exact absurd (by rw [hln]; rfl) h2
        | a :: b :: _ :: _, _ => cases a <;> first | rfl | (cases b <;> rfl)
      have h4 : ds.length = 2 := by
        have : ((ys.length : Nat) : Int) = 2 := Decidable.of_not_not h2
        omega
      obtain ⟨d0, d1, rfl⟩ : ∃ d0 d1, ds = [d0, d1] := by
        match ds, h4 with
        | [d0, d1], _ => exact ⟨d0, d1, rfl⟩
      obtain ⟨x0, _, rfl, r0, x1, _, rfl, r1, rfl⟩ := hRp
      have g1 := s1 _ _ g
      refine .inr (.inl ⟨tp, _, 0, _, rfl, rfl, SqT.of g1, at_nat (i := 0) rfl, x0, _, rfl, (Rep.kd r0).same s1, _, rfl, ite2 (fun h0 => no _ s1 ?_) (fun h0 => ?_)⟩)
      · cases d0 <;> first | rfl | exact absurd h0 Bool.noConfusion
      obtain ⟨a, rfl⟩ : ∃ i, d0 = .int i := by
        cases d0 <;> first | exact ⟨_, rfl⟩ | exact absurd rfl h0
      have r0 : x0 = .int a := r0
      subst r0
      refine .inr (.inl ⟨tp, _, 1, _, rfl, rfl, SqT.of g1, at_nat (i := 1) rfl, x1, _, rfl, (Rep.kd r1).same s1, _, rfl, ite2 (fun h1 => no _ s1 ?_) (fun h1 => ?_)⟩)
      · cases d1 <;> first | rfl | exact absurd h1 Bool.noConfusion
      obtain ⟨b, rfl⟩ : ∃ i, d1 = .int i := by
        cases d1 <;> first | exact ⟨_, rfl⟩ | exact absurd rfl h1
      have r1 : x1 = .int b := r1
      subst r1
      have hpl : isPlace (atOf F 0 width wide left r) r (some (.tup [.int a, .int b])) = (decide (a = atOf F 0 width wide left r) && decide (b = r)) := rfl
      refine ⟨_, _, .tup (SqT.of g1) (.cons (.int _) (.cons (.int _) .nil)), .tup (SqT.of et) (.cons (.int _) (.cons (.int _) .nil)), rfl, rfl, ?_⟩
      refine ⟨_, rfl, ite2 (fun he => no _ s1 ?_) (fun he => ?_)⟩
      · rw [hpl]
        have he : (!((a == atOf F 0 width wide left r) && ((b == r) && true))) = true := he
        rw [Bool.and_true, Bool.not_eq_true'] at he
        exact he
      have he : (decide (a = atOf F 0 width wide left r) && decide (b = r)) = true := by
        have he : ¬ (!((a == atOf F 0 width wide left r) && ((b == r) && true))) = true := he
        rw [Bool.and_true, Bool.not_eq_true', Bool.not_eq_false] at he
        exact he
      have q2 : ∀ H', Same H H' → Q (.bl (rightD F width wide (startOf F c) r ov)) H' := fun H' s => qb (q H' s) (by rw [hpl, he, Bool.true_and])
      have hkv := (hv.mono s1).kd
      by_cases hkl : kdO ov = .lst
      · obtain ⟨es, rfl⟩ : ∃ ds, ov = some (.lst ds) := by
          cases ov with
          | none => cases hkl
          | some d => cases d <;> first | exact ⟨_, rfl⟩ | cases hkl
        refine isk .lst (by decide) hkv ⟨_, rfl, ite2 (fun h => absurd h (show ¬ (isKd .lst .lst = false) by decide)) (fun _ => ?_)⟩
        obtain ⟨al, zs, rfl, gl, hRl⟩ := hv
        have hzl := hRl.length
        refine ⟨v, F, c, rfl, hF.mono s1, hG.2, fun H2 s2 => ?_⟩
        have s02 := s1.trans s2
        refine ⟨_, rfl, al, rfl, ⟨_, SqL.of (s02 _ _ gl)⟩, for_list (xs := zs) (fun i σ H3 => ∃ (row : Int) (b9 : Option V), σ = [some v, some (.int width), some (.int c), some (.int wide), some (.str (S (sideT left))), some (.ref tp), some (.ref al), some (.ref t), some (.int row), b9] ∧ Same H H3 ∧ H3 t = some (.tup [.int (atOf F 0 width wide left r), .int r]) ∧ runD F width wide (startOf F c) (es.take i) = some row) ?_ ?_ ?_ ?_⟩
        · exact ⟨_, _, rfl, s02, s2 _ _ et, rfl⟩
        · rintro i σ H3 _ ⟨row, b9, rfl, s3, _⟩
          exact SqL.of (s3 _ _ gl)
        · rintro i x σ H3 hx ⟨row, b9, rfl, s3, e3, hrun⟩
          obtain ⟨d, hd, rd⟩ := hRl.get hx
          have hsp : es = es.take i ++ d :: es.drop (i + 1) := by
            have hil := (List.getElem?_eq_some_iff.mp hd).1
            have := (List.getElem?_eq_some_iff.mp hd).2
            rw [← this, ← List.drop_eq_getElem_cons hil, List.take_append_drop]
          (try simp only [cx_K, cx_w, rIn, rMulS, CwR.tReplC, tM1, tBM0, rPop, rExtend, rReverse, rLenS, rEqE, rNeE, rSetL, rIntI, rIntB, tBM, rAppend, rIxL, rIxT, rCat, rSlL, rSlS, gTup, tYes, wipe, tSeq, tAsg, tIfS, tRet, tRetN, tDrop, tNext, tBreak, tCont, tNever, tAug, ipI, tPar, tPar3, gName, gCons, gNil, gSub, tVar, tC, tOp, tUn, tIf, tAndV, tOrV, tNotV, tAnd, tOr, tNot, L2.tB, tTest, tCmp, tChain, tCB, tCons, tNil, tCall, tTup, tLst, tSl, tPart, tNoPart, rI, rI0, rU, rEq, rNe, scal_ii, scal_ss, scal_bb, scal_nn, scal_is, scal_si, rIxS, S_len, S_cps, S_inj, L2.start, List.map_cons, List.map_nil, List.cons_append, List.nil_append, List.append_nil, List.getElem?_cons_zero, List.getElem?_cons_succ, List.set_cons_zero, List.set_cons_succ, List.length_cons, List.length_nil, Nat.reduceAdd, Nat.reduceSub, List.replicate_succ, List.replicate_zero, Option.some.injEq, V.int.injEq, V.str.injEq, V.bl.injEq, V.ref.injEq, List.cons.injEq, and_true, true_and, exists_eq_left, exists_eq_left', exists_and_left, exists_eq, exists_eq', decide_eq_true_eq, Bool.not_eq_true', decide_eq_false_iff_not, Bool.false_eq_true, if_false, if_true, reduceIte, ite_self, CMul, CPow, CDiv])
          refine ⟨v, F, width, wide, x, d, row, rfl, hF.mono s3, hG.2, rd.mono s3, fun H4 s4 => ⟨_, rfl, ?_⟩⟩
          have s04 := s3.trans s4
          cases hst : strD F width wide row d with
          | none =>
            refine ifT rfl (qb (q2 H4 s04) ?_)
            have hrn : runD F width wide (startOf F c) es = none := by
              rw [hsp, run_app, hrun]
              show (match strD F width wide row d with | some r => runD F width wide r (es.drop (i + 1)) | none => none) = none
              rw [hst]
            show false = decide (runD F width wide (startOf F c) es = some r)
            rw [hrn]
            rfl
          | some stop =>
            refine ifF (fun z => nomatch z) ?_
            obtain ⟨d0, di, dj, rfl⟩ := str_shape hst
            obtain ⟨tx, xs, rfl, gx, y0, _, rfl, _, y1, _, rfl, ry1, _⟩ := rd
            have ry1 : y1 = .int stop := ry1
            subst ry1
            refine .inr (.inl ⟨tx, _, 1, _, rfl, rfl, SqT.of (s04 _ _ gx), at_nat (i := 1) rfl, stop, _, ⟨rfl, rfl⟩, s04, s4 _ _ e3, ?_⟩)
            rw [take_snoc hd, run_snoc _ _ _ _ hrun]
            exact hst
        · rintro σ H3 ⟨row, b9, rfl, s3, e3, hrun⟩
          rw [hzl, List.take_length] at hrun
          (try simp only [cx_K, cx_w, rIn, rMulS, CwR.tReplC, tM1, tBM0, rPop, rExtend, rReverse, rLenS, rEqE, rNeE, rSetL, rIntI, rIntB, tBM, rAppend, rIxL, rIxT, rCat, rSlL, rSlS, gTup, tYes, wipe, tSeq, tAsg, tIfS, tRet, tRetN, tDrop, tNext, tBreak, tCont, tNever, tAug, ipI, tPar, tPar3, gName, gCons, gNil, gSub, tVar, tC, tOp, tUn, tIf, tAndV, tOrV, tNotV, tAnd, tOr, tNot, L2.tB, tTest, tCmp, tChain, tCB, tCons, tNil, tCall, tTup, tLst, tSl, tPart, tNoPart, rI, rI0, rU, rEq, rNe, scal_ii, scal_ss, scal_bb, scal_nn, scal_is, scal_si, rIxS, S_len, S_cps, S_inj, L2.start, List.map_cons, List.map_nil, List.cons_append, List.nil_append, List.append_nil, List.getElem?_cons_zero, List.getElem?_cons_succ, List.set_cons_zero, List.set_cons_succ, List.length_cons, List.length_nil, Nat.reduceAdd, Nat.reduceSub, List.replicate_succ, List.replicate_zero, Option.some.injEq, V.int.injEq, V.str.injEq, V.bl.injEq, V.ref.injEq, List.cons.injEq, and_true, true_and, exists_eq_left, exists_eq_left', exists_and_left, exists_eq, exists_eq', decide_eq_true_eq, Bool.not_eq_true', decide_eq_false_iff_not, Bool.false_eq_true, if_false, if_true, reduceIte, ite_self, CMul, CPow, CDiv])
          refine ⟨_, SqT.of e3, _, at_nat (i := 1) rfl, rfl, qb (q2 H3 s3) ?_⟩
          show _ = decide (runD F width wide (startOf F c) es = some r)
          rw [hrun, decide_eq_decide]
          constructor
          · intro e
            rw [V.int.inj e]
          · intro e
            rw [Option.some.inj e]
      · have hno : rightD F width wide (startOf F c) r ov = false := by
          cases ov with
          | none => rfl
          | some d => cases d <;> first | rfl | exact absurd rfl hkl
        refine isk .lst (by decide) hkv ⟨_, rfl, ifT ?_ (nov _ s1 hno)⟩
        cases h : kdO ov <;> first | rfl | exact absurd h hkl
    · refine isk .tup (by decide) hk ⟨_, rfl, ifT ?_ (no _ s1 (notT hkt))⟩
      cases h : kdO op <;> first | rfl | exact absurd h hkt
end
end K92


namespace KB
open PySem PySem.Spec PyProof.Rows L2
theorem pmk_own0 {X : Cx} {C : Addr} {bmB : List Value} {B newId initId : String} {x : Str} {p pos : Pos} (F : ExcBaseFacts B newId initId bmB) (q : PySem.W.excIn X.K C bmB newId = true) (gC : X.mg x = some (.ref C))
    (kC : PySem.W.keepIn X.K (.ref C) = true) (r : Raises X (.ref C)) (hg : Gl X x) (hdb : (x == ("__debug__" : Str)) = false := by decide) :
    PMk X (.Call (.Name x p) [] [] pos) (fun _ H Q => Q (.ref C) none H) := by
  intro pins s σ H Q I h
  refine wpAny_Call_Name_kw (ld_glob I hg gC ?_ hdb)
  refine PySem.W.callWith_K0 I.kIn kC ?_
  show wpAny _ _ (call (.ref C) []) _ _ _
  obtain ⟨bm, N, nm, qn, bs, hdct, sn, sub, ab, col, dd, k0, k1, k2, k3, k5, mN, hC, hN, hni, T⟩ := exc_obj I.kIn q
  refine wpAny_call_exc_subT F T hC hN hni (fun h' e hm => ?_) (by decide)
  exact mk_of I hm r h (I.hok.gone hm.new)
theorem pcallX {X : Cx} {k : Nat} {ps : List Str} {sp : Sp} {W : WX} {x : Str} {p pos : Pos} {e : Expr} {es : List Expr} {t : TA}
    (F : Ok X.prog X.w X.K X.mg X.base (L2.CX X.prog X.w) k x ps sp) (hr : Room k X.A) (hg : Gl X x) (tk : Takes X W)
    (ha : PA X (e :: es) t) (hdb : (x == ("__debug__" : Str)) = false := by decide) (he : starEach (e :: es) X.env = (false, eval e X.env) :: starEach es X.env := by rfl) (hpl : (backTo pos (starEach es X.env)).any (·.1) = false := by rfl) :
    PE X (.Call (.Name x p) (e :: es) [] pos) (tCallS sp (WE W) t) := by
  obtain ⟨f, fd, hm, hk, hb, F⟩ := F
  exact pe_callS F hr hg hm hk hb (fun σ => passAt tk σ) ha hdb he hpl
theorem mkOkX {P : Program} {w : World} {K : PySem.W.Frag} {mg : Str → Option Value} {base : Heap} {g x : Str} {st : Stmt} {N ps : List Str} {k : Nat} {sp : Sp} (F : At K mg g x st ps) (S : FnScope N ps (defScope st)) (len : ∀ vs H Q E, sp vs H Q E → vs.length = ps.length)
    (hbody : ∀ (f : Addr) (cdv : Value) (A : Around) (outer : List Env) (s : Shared) (H : Hp) (vs : List V) (Q : VK) (E : XK), Room k (A.deeper (envOfC x (defScope st) s.heap.objs.size f cdv)) → sp vs H Q E →
      ∃ t, PSs (cxOf (L2.CX P w) P w K mg base N x (defScope st) f cdv A outer s H E) (defBody st) t ∧ t { nx := fun _ H' => Q .non H', rt := Q } (L2.start N vs) H) : Ok P w K mg base (L2.CX P w) (k + 1) g ps sp := by
  obtain ⟨f, fd, hm, F, hb⟩ := F
  exact ⟨f, fd, hm, F.kp, hb, F.okX S len fun cdv A outer s H vs Q E hr h => hbody f cdv A outer s H vs Q E hr h⟩
end KB
namespace K92
open PySem PySem.Spec PyProof.Rows L2 KB
structure ExcTop (K : PySem.W.Frag) (mg : Str → Option Value) (cP cB : Addr) : Prop where
  gP : mg "PageError" = some (.ref cP)
  gB : mg "BadList" = some (.ref cB)
  qB : PySem.W.excIn K cB [.type "Exception", .type "BaseException", .type "object"] "Exception.__new__" = true
  kB : PySem.W.keepIn K (.ref cB) = true
  sB : PySem.W.subIn K (.ref cB) (.type "BaseException") = some true
  tB : PySem.W.typeIn K (.ref cB) = some (.type "type")
  mB : PySem.W.exmOne K (.ref cB) (.ref cB) = some true
section
variable {P : Program} {w : World} {K : PySem.W.Frag} {mg : Str → Option Value} {base : Heap} {cP cB : Addr}
def areFlO : Option D → Bool
  | some d => areFl d
  | none => false
def isCountO : Option D → Bool
  | some (.int i) => decide (0 ≤ i)
  | _ => false
def isWholeO (o : Option D) : Bool := decide (kdO o = .int)
def isSideO : Option D → Bool
  | some (.str s) => decide (s ∈ [sideT true, sideT false])
  | _ => false
theorem count_o {H : Hp} {o : Option D} {v : V} (h : RepO H o v) : isCount v = isCountO o := by
  cases o with
  | none => obtain ⟨a, rfl, _⟩ := h; rfl
  | some d =>
    cases d with
    | non => have h : v = .non := h; subst h; rfl
    | bl b => have h : v = .bl b := h; subst h; rfl
    | int b => have h : v = .int b := h; subst h; rfl
    | str b => have h : v = .str (S b) := h; subst h; rfl
    | tup b => obtain ⟨_, _, rfl, _⟩ := h; rfl
    | lst b => obtain ⟨_, _, rfl, _⟩ := h; rfl
def spAreN : Sp := fun vs H Q _ => ∃ a, vs = [.ref a] ∧ H a = some (.dK []) ∧ Q (.bl false) H
theorem okAreN (T : Top K w mg) : Ok P w K mg base CX0 3 "are_floats" ["value"] spAreN := by
  have GIsFloat : Ok P w K mg base CX0 2 "is_float" ["value"] spIsFloat := okIsFloat T
  have m_isinstance := T.m_isinstance
  have m_list := T.m_list
  have m_len := T.m_len
  have m_all := T.m_all
  have m_range := T.m_range
  refine mkOk T.f_are_floats scAreFloats (fun vs H Q E h => ?_) (fun f cdv A outer s H vs Q E hr h => ?_)
  · obtain ⟨_, rfl, _⟩ := h
    rfl
  · obtain ⟨a, rfl, ha, q⟩ := h
    refine ⟨_, pss_cons (ps_if (PW.pt (pw_or (pt_not (pt_val (pe_callB call_isi (by rfl) m_isinstance (by decide +kernel) (pa_cons (pv 0) (pa_cons (pe_bltn (u := .type "list") (v := .ty "list") (by rfl) m_list (by decide +kernel) rfl) pa_nil))))) (pw_or1 (pt_not (pt_val (pe_callB (cr_all rfl) (by rfl) m_all (by decide +kernel) (pa_cons (pe_lc (own := [("one", 2)]) rfl scAreFloats.nd (pi_list (pv 0)) (blkOk_by (own := [("one", 2)]) (N := ["value", "k", "one"]) (sc := defScope sAreFloats) (by decide +kernel)) (fun _ _ _ _ _ => pg_name (i := 2) scAreFloats.nd rfl (Or.inl rfl)) (fun _ _ _ _ _ => pts_nil) (fun _ _ _ _ _ => pcall GIsFloat (hr.mono (by decide)) (by rfl) pass0 (pa_cons (pv 2) pa_nil))) pa_nil)))))))
  (pss_one (ps_ret (pe_bl)))
  (pss_nil))
  (pss_one (ps_ret (pe_callB (cr_all rfl) (by rfl) m_all (by decide +kernel) (pa_cons (pe_lc (own := [("k", 1)]) rfl scAreFloats.nd (pi_range1 rfl m_range (pa_cons (pe_op op_sub (pe_callB (call_len_seqK (K := K) rfl) (by rfl) m_len PySem.boot_len (pa_cons (pv 0) pa_nil)) (pe_int)) pa_nil)) (blkOk_by (own := [("k", 1)]) (N := ["value", "k", "one"]) (sc := defScope sAreFloats) (by decide +kernel)) (fun _ _ _ _ _ => pg_name (i := 1) scAreFloats.nd rfl (Or.inl rfl)) (fun _ _ _ _ _ => pts_nil) (fun _ _ _ _ _ => pe_cmpR op_le (pe_ix (ix_tupK (K := K) rfl) (pe_ix (ix_listK (K := K) rfl) (pv 0) (pv 1) (fun _ _ => rfl)) (pe_int) (fun _ _ => rfl)) (pe_ix (ix_tupK (K := K) rfl) (pe_ix (ix_listK (K := K) rfl) (pv 0) (pe_op op_add (pv 1) (pe_int)) (fun _ _ => rfl)) (pe_int) (fun _ _ => rfl)) (nomark _))) pa_nil)))), ?_⟩
    (try simp only [cx_K, cx_w, rIn, rMulS, CwR.tReplC, tM1, tBM0, rPop, rExtend, rReverse, rLenS, rEqE, rNeE, rSetL, rIntI, rIntB, tBM, rAppend, rIxL, rIxT, rCat, rSlL, rSlS, gTup, tYes, wipe, tSeq, tAsg, tIfS, tRet, tRetN, tDrop, tNext, tBreak, tCont, tNever, tAug, ipI, tPar, tPar3, gName, gCons, gNil, gSub, tVar, tC, tOp, tUn, tIf, tAndV, tOrV, tNotV, tAnd, tOr, tNot, L2.tB, tTest, tCmp, tChain, tCB, tCons, tNil, tCall, tCallS, tTup, tLst, tSl, tPart, tNoPart, rI, rI0, rU, rEq, rNe, scal_ii, scal_ss, scal_bb, scal_nn, scal_is, scal_si, rIxS, S_len, S_cps, S_inj, L2.start, List.map_cons, List.map_nil, List.cons_append, List.nil_append, List.append_nil, List.getElem?_cons_zero, List.getElem?_cons_succ, List.set_cons_zero, List.set_cons_succ, List.length_cons, List.length_nil, Nat.reduceAdd, Nat.reduceSub, List.replicate_succ, List.replicate_zero, Option.some.injEq, V.int.injEq, V.str.injEq, V.bl.injEq, V.ref.injEq, List.cons.injEq, and_true, true_and, exists_eq_left, exists_eq_left', exists_and_left, exists_eq, exists_eq', decide_eq_true_eq, Bool.not_eq_true', decide_eq_false_iff_not, Bool.false_eq_true, if_false, if_true, reduceIte, ite_self, CMul, CPow, CDiv])
    exact isk .lst (by decide) (.dct ha) ⟨_, rfl, ifT rfl q⟩
def ok3 (o0 o1 o2 : Option D) : Bool := areFlO o0 && (isCountO o1 && isWholeO o2)
def spCheckX (cB : Addr) : Sp := fun vs H Q E => ∃ v0 v1 v2 o0 o1 o2, vs = [v0, v1, v2] ∧ RepO H o0 v0 ∧ (∀ ds, o0 = some (.lst ds) → ds.length ≤ 1000) ∧ RepO H o1 v1 ∧ RepO H o2 v2 ∧
  (ok3 o0 o1 o2 = true → ∀ H', Same H H' → Q .non H') ∧ (ok3 o0 o1 o2 = false → ∀ H', Same H H' → E (.ref cB) none H')
theorem okCheckX (T : Top K w mg) (XT : ExcTop K mg cP cB) : Ok P w K mg base (L2.CX P w) 4 "check_room" ["floats", "width", "row"] (spCheckX cB) := by
  have GIsCount : Ok P w K mg base CX0 2 "is_count" ["value"] spCount := okCount T
  have GIsWholeBeside : Ok P w K mg base CX0 1 "is_whole_beside" ["value"] spWhole := okWholeBeside T
  refine mkOkX T.f_check_room scCheckRoom (fun vs H Q E h => ?_) (fun f cdv A outer s H vs Q E hr h => ?_)
  · obtain ⟨_, _, _, _, _, _, rfl, _⟩ := h
    rfl
  · obtain ⟨v0, v1, v2, o0, o1, o2, rfl, h0, hl, h1, h2, q, qe⟩ := h
    have rest : ∀ H1, Same H H1 → areFlO o0 = true → spCount [v1] H1 (fun x_1 H2 => ∃ c, x_1 = .bl c ∧ (if c = false then E (.ref cB) none H2 else spWhole [v2] H2 (fun x_2 H3 => ∃ c, x_2 = .bl c ∧ (if c = false then E (.ref cB) none H3 else Q .non H3)) E0)) E0 := fun H1 s1 ha => by
      have hk1 := (h1.mono s1).kd
      have hk2 := (h2.mono s1).kd
      refine ⟨v1, _, rfl, hk1, _, rfl, ite2 (fun hc => ?_) (fun hc => ⟨v2, _, rfl, hk2, _, rfl, ite2 (fun hd => ?_) (fun hd => ?_)⟩)⟩
      · rw [count_o h1] at hc
        exact qe (by unfold ok3; rw [hc, Bool.false_and, Bool.and_false]) H1 s1
      · exact qe (by unfold ok3 isWholeO; rw [hd, Bool.and_false, Bool.and_false]) H1 s1
      · rw [count_o h1] at hc
        refine q ?_ H1 s1
        unfold ok3 isWholeO
        rw [ha]
        cases hi : isCountO o1 with
        | false => exact absurd hi hc
        | true =>
          cases hj : decide (kdO o2 = .int) with
          | false => exact absurd hj hd
          | true => rfl
    cases o0 with
    | some d =>
      have GAreFloats : Ok P w K mg base CX0 3 "are_floats" ["value"] spAreFloats := okAreFloats T
      refine ⟨_, pss_one (ps_if (PW.pt (pw_or (pt_not (pt_val (pcall GAreFloats (hr.mono (by decide)) (by rfl) pass0 (pa_cons (pv 0) pa_nil)))) (pw_or (pt_not (pt_val (pcall GIsCount (hr.mono (by decide)) (by rfl) pass0 (pa_cons (pv 1) pa_nil)))) (pw_or1 (pt_not (pt_val (pcall GIsWholeBeside (hr.mono (by decide)) (by rfl) pass0 (pa_cons (pv 2) pa_nil))))))))
  (pss_one (ps_raise rfl (takes_of rfl rfl rfl rfl) (pmk_own0 PySem.F.excBase_Exception XT.qB XT.gB XT.kB (raises_own XT.sB XT.tB) rfl)))
  (pss_nil)), ?_⟩
      (try simp only [cx_K, cx_w, rIn, rMulS, CwR.tReplC, tM1, tBM0, rPop, rExtend, rReverse, rLenS, rEqE, rNeE, rSetL, rIntI, rIntB, tBM, rAppend, rIxL, rIxT, rCat, rSlL, rSlS, gTup, tYes, wipe, tSeq, tAsg, tIfS, tRet, tRetN, tDrop, tNext, tBreak, tCont, tNever, tAug, ipI, tPar, tPar3, gName, gCons, gNil, gSub, tVar, tC, tOp, tUn, tIf, tAndV, tOrV, tNotV, tAnd, tOr, tNot, L2.tB, tTest, tCmp, tChain, tCB, tCons, tNil, tCall, tCallS, tTup, tLst, tSl, tPart, tNoPart, rI, rI0, rU, rEq, rNe, scal_ii, scal_ss, scal_bb, scal_nn, scal_is, scal_si, rIxS, S_len, S_cps, S_inj, L2.start, List.map_cons, List.map_nil, List.cons_append, List.nil_append, List.append_nil, List.getElem?_cons_zero, List.getElem?_cons_succ, List.set_cons_zero, List.set_cons_succ, List.length_cons, List.length_nil, Nat.reduceAdd, Nat.reduceSub, List.replicate_succ, List.replicate_zero, Option.some.injEq, V.int.injEq, V.str.injEq, V.bl.injEq, V.ref.injEq, List.cons.injEq, and_true, true_and, exists_eq_left, exists_eq_left', exists_and_left, exists_eq, exists_eq', decide_eq_true_eq, Bool.not_eq_true', decide_eq_false_iff_not, Bool.false_eq_true, if_false, if_true, reduceIte, ite_self, CMul, CPow, CDiv])
      refine ⟨v0, d, rfl, h0, fun ds e => hl ds (by rw [e]), fun H1 s1 => ⟨_, rfl, ite2 (fun ha => ?_) (fun ha => ?_)⟩⟩
      · exact qe (by unfold ok3; rw [show areFlO (some d) = areFl d from rfl, ha, Bool.false_and]) H1 s1
      · exact rest H1 s1 (by cases h : areFl d <;> first | exact absurd h ha | exact h)
    | none =>
      have GAreFloats : Ok P w K mg base CX0 3 "are_floats" ["value"] spAreN := okAreN T
      refine ⟨_, pss_one (ps_if (PW.pt (pw_or (pt_not (pt_val (pcall GAreFloats (hr.mono (by decide)) (by rfl) pass0 (pa_cons (pv 0) pa_nil)))) (pw_or (pt_not (pt_val (pcall GIsCount (hr.mono (by decide)) (by rfl) pass0 (pa_cons (pv 1) pa_nil)))) (pw_or1 (pt_not (pt_val (pcall GIsWholeBeside (hr.mono (by decide)) (by rfl) pass0 (pa_cons (pv 2) pa_nil))))))))
  (pss_one (ps_raise rfl (takes_of rfl rfl rfl rfl) (pmk_own0 PySem.F.excBase_Exception XT.qB XT.gB XT.kB (raises_own XT.sB XT.tB) rfl)))
  (pss_nil)), ?_⟩
      (try simp only [cx_K, cx_w, rIn, rMulS, CwR.tReplC, tM1, tBM0, rPop, rExtend, rReverse, rLenS, rEqE, rNeE, rSetL, rIntI, rIntB, tBM, rAppend, rIxL, rIxT, rCat, rSlL, rSlS, gTup, tYes, wipe, tSeq, tAsg, tIfS, tRet, tRetN, tDrop, tNext, tBreak, tCont, tNever, tAug, ipI, tPar, tPar3, gName, gCons, gNil, gSub, tVar, tC, tOp, tUn, tIf, tAndV, tOrV, tNotV, tAnd, tOr, tNot, L2.tB, tTest, tCmp, tChain, tCB, tCons, tNil, tCall, tCallS, tTup, tLst, tSl, tPart, tNoPart, rI, rI0, rU, rEq, rNe, scal_ii, scal_ss, scal_bb, scal_nn, scal_is, scal_si, rIxS, S_len, S_cps, S_inj, L2.start, List.map_cons, List.map_nil, List.cons_append, List.nil_append, List.append_nil, List.getElem?_cons_zero, List.getElem?_cons_succ, List.set_cons_zero, List.set_cons_succ, List.length_cons, List.length_nil, Nat.reduceAdd, Nat.reduceSub, List.replicate_succ, List.replicate_zero, Option.some.injEq, V.int.injEq, V.str.injEq, V.bl.injEq, V.ref.injEq, List.cons.injEq, and_true, true_and, exists_eq_left, exists_eq_left', exists_and_left, exists_eq, exists_eq', decide_eq_true_eq, Bool.not_eq_true', decide_eq_false_iff_not, Bool.false_eq_true, if_false, if_true, reduceIte, ite_self, CMul, CPow, CDiv])
      obtain ⟨a, rfl, ha⟩ := h0
      exact ⟨a, rfl, ha, _, rfl, ifT rfl (qe rfl H (Same.refl _))⟩
def fine5 (o0 o1 o2 o3 o4 : Option D) : Bool := ok3 o0 o1 o2 && (isCountO o3 && isSideO o4)
/-- five values with one thing wrong -/
def Bad5 (H : Hp) (vs : List V) : Prop := ∃ v0 v1 v2 v3 v4 o0 o1 o2 o3 o4, vs = [v0, v1, v2, v3, v4] ∧ RepO H o0 v0 ∧ (∀ ds, o0 = some (.lst ds) → ds.length ≤ 1000) ∧ RepO H o1 v1 ∧ RepO H o2 v2 ∧ RepO H o3 v3 ∧ RepO H o4 v4 ∧ fine5 o0 o1 o2 o3 o4 = false
theorem Bad5.len {H : Hp} {vs : List V} (h : Bad5 H vs) : vs.length = 5 := by
  obtain ⟨_, _, _, _, _, _, _, _, _, _, rfl, _⟩ := h
  rfl
def spAtX (cB : Addr) : Sp := fun vs H Q E => Bad5 H vs ∧ ∀ H', Same H H' → E (.ref cB) none H'
theorem okAtX (T : Top K w mg) (XT : ExcTop K mg cP cB) : Ok P w K mg base (L2.CX P w) 5 "float_at" ["floats", "width", "ceiling", "w", "side"] (spAtX cB) := by
  have GCheckRoom : Ok P w K mg base (L2.CX P w) 4 "check_room" ["floats", "width", "row"] (spCheckX cB) := okCheckX T XT
  have GIsCount : Ok P w K mg base CX0 2 "is_count" ["value"] spCount := okCount T
  have m_isinstance := T.m_isinstance
  have m_str := T.m_str
  obtain ⟨tL, m_LEFT⟩ := T.m_LEFT
  obtain ⟨tR, m_RIGHT⟩ := T.m_RIGHT
  have GFloatPlace : Ok P w K mg base CX0 4 "float_place" ["floats", "low", "high", "start", "wide", "side"] spPlace := okPlace T
  refine mkOkX T.f_float_at scFloatAt (fun vs H Q E h => h.1.len) (fun f cdv A outer s H vs Q E hr h => ?_)
  · obtain ⟨⟨v0, v1, v2, v3, v4, o0, o1, o2, o3, o4, rfl, h0, hl, h1, h2, h3, h4, hb⟩, qe⟩ := h
    refine ⟨_, pss_cons (ps_expr (pcallX GCheckRoom (hr.mono (by decide)) (by rfl) (takes_of rfl rfl rfl rfl) (pa_cons (pv 0) (pa_cons (pv 1) (pa_cons (pv 2) pa_nil)))))
  (pss_cons (ps_if (PW.pt (pw_or (pt_not (pt_val (pcall GIsCount (hr.mono (by decide)) (by rfl) pass0 (pa_cons (pv 3) pa_nil)))) (pw_or (pt_not (pt_val (pe_callB call_isi (by rfl) m_isinstance (by decide +kernel) (pa_cons (pv 4) (pa_cons (pe_bltn (u := .type "str") (v := .ty "str") (by rfl) m_str (by decide +kernel) rfl) pa_nil))))) (pw_or1 (pt_cmpR op_notIn_seq (pv 4) (pe_tup (pa_cons (pe_glob (v := .str "left") rfl m_LEFT ⟨_, rfl⟩) (pa_cons (pe_glob (v := .str "right") rfl m_RIGHT ⟨_, rfl⟩) pa_nil))) (by with_unfolding_all rfl))))))
  (pss_one (ps_raise rfl (takes_of rfl rfl rfl rfl) (pmk_own0 PySem.F.excBase_Exception XT.qB XT.gB XT.kB (raises_own XT.sB XT.tB) rfl)))
  (pss_nil))
  (pss_one (ps_ret (pcall GFloatPlace (hr.mono (by decide)) (by rfl) pass0 (pa_cons (pv 0) (pa_cons (pe_int) (pa_cons (pv 1) (pa_cons (pv 2) (pa_cons (pv 3) (pa_cons (pv 4) pa_nil)))))))))), ?_⟩
    (try simp only [cx_K, cx_w, rIn, rMulS, CwR.tReplC, tM1, tBM0, rPop, rExtend, rReverse, rLenS, rEqE, rNeE, rSetL, rIntI, rIntB, tBM, rAppend, rIxL, rIxT, rCat, rSlL, rSlS, gTup, tYes, wipe, tSeq, tAsg, tIfS, tRet, tRetN, tDrop, tNext, tBreak, tCont, tNever, tAug, ipI, tPar, tPar3, gName, gCons, gNil, gSub, tVar, tC, tOp, tUn, tIf, tAndV, tOrV, tNotV, tAnd, tOr, tNot, L2.tB, tTest, tCmp, tChain, tCB, tCons, tNil, tCall, tCallS, tTup, tLst, tSl, tPart, tNoPart, rI, rI0, rU, rEq, rNe, scal_ii, scal_ss, scal_bb, scal_nn, scal_is, scal_si, rIxS, S_len, S_cps, S_inj, L2.start, List.map_cons, List.map_nil, List.cons_append, List.nil_append, List.append_nil, List.getElem?_cons_zero, List.getElem?_cons_succ, List.set_cons_zero, List.set_cons_succ, List.length_cons, List.length_nil, Nat.reduceAdd, Nat.reduceSub, List.replicate_succ, List.replicate_zero, Option.some.injEq, V.int.injEq, V.str.injEq, V.bl.injEq, V.ref.injEq, List.cons.injEq, and_true, true_and, exists_eq_left, exists_eq_left', exists_and_left, exists_eq, exists_eq', decide_eq_true_eq, Bool.not_eq_true', decide_eq_false_iff_not, Bool.false_eq_true, if_false, if_true, reduceIte, ite_self, CMul, CPow, CDiv])
    refine ⟨v0, v1, v2, o0, o1, o2, rfl, h0, hl, h1, h2, fun hok H1 s1 => ?_, fun _ H1 s1 => qe H1 s1⟩
    unfold fine5 at hb
    rw [hok, Bool.true_and] at hb
    refine ⟨v3, _, rfl, (h3.mono s1).kd, _, rfl, ite2 (fun hc => qe H1 s1) (fun hc => ?_)⟩
    rw [count_o h3] at hc
    have hc : isCountO o3 = true := by cases h : isCountO o3 <;> first | exact absurd h hc | rfl
    rw [hc, Bool.true_and] at hb
    refine isk .str (by decide) (h4.mono s1).kd ⟨_, rfl, ite2 (fun hd => qe H1 s1) (fun hd => ?_)⟩
    obtain ⟨s4, rfl⟩ : ∃ s, o4 = some (.str s) := by
      cases o4 with
      | none => exact absurd rfl hd
      | some d => cases d <;> first | exact ⟨_, rfl⟩ | exact absurd rfl hd
    have h4 : v4 = .str (S s4) := h4
    subst h4
    refine ⟨by decide, fun p hp => ⟨_, .inr (SqT.of upd_same), rfl, rfl, ?_⟩⟩
    rw [show inV (V.str (S s4)) [V.str (Str.ofString "left"), V.str (Str.ofString "right")] = decide (s4 ∈ [sideT true, sideT false]) from in_strs (zs := [sideT true, sideT false])]
    exact ifT hb (qe _ (s1.trans (Same.new hp)))
theorem okPaperX (T : Top K w mg) (XT : ExcTop K mg cP cB) : Ok P w K mg base (L2.CX P w) 6 "float_paper" ["floats", "width", "ceiling", "w", "side"] (spAtX cB) := by
  have GFloatAt : Ok P w K mg base (L2.CX P w) 5 "float_at" ["floats", "width", "ceiling", "w", "side"] (spAtX cB) := okAtX T XT
  refine mkOkX T.f_float_paper scFloatPaper (fun vs H Q E h => h.1.len) (fun f cdv A outer s H vs Q E hr h => ?_)
  · obtain ⟨hB, qe⟩ := h
    obtain ⟨v0, v1, v2, v3, v4, rfl⟩ : ∃ a b c d e, vs = [a, b, c, d, e] := by
      obtain ⟨_, _, _, _, _, _, _, _, _, _, rfl, _⟩ := hB
      exact ⟨_, _, _, _, _, rfl⟩
    refine ⟨_, pss_cons (ps_set (i := 5) scFloatPaper.nd rfl (Or.inr rfl) (pe_ix ix_tup (pcallX GFloatAt (hr.mono (by decide)) (by rfl) (takes_of rfl rfl rfl rfl) (pa_cons (pv 0) (pa_cons (pv 1) (pa_cons (pv 2) (pa_cons (pv 3) (pa_cons (pv 4) pa_nil)))))) (pe_int) (fun _ _ => rfl))) pss_never, ?_⟩
    (try simp only [cx_K, cx_w, rIn, rMulS, CwR.tReplC, tM1, tBM0, rPop, rExtend, rReverse, rLenS, rEqE, rNeE, rSetL, rIntI, rIntB, tBM, rAppend, rIxL, rIxT, rCat, rSlL, rSlS, gTup, tYes, wipe, tSeq, tAsg, tIfS, tRet, tRetN, tDrop, tNext, tBreak, tCont, tNever, tAug, ipI, tPar, tPar3, gName, gCons, gNil, gSub, tVar, tC, tOp, tUn, tIf, tAndV, tOrV, tNotV, tAnd, tOr, tNot, L2.tB, tTest, tCmp, tChain, tCB, tCons, tNil, tCall, tCallS, tTup, tLst, tSl, tPart, tNoPart, rI, rI0, rU, rEq, rNe, scal_ii, scal_ss, scal_bb, scal_nn, scal_is, scal_si, rIxS, S_len, S_cps, S_inj, L2.start, List.map_cons, List.map_nil, List.cons_append, List.nil_append, List.append_nil, List.getElem?_cons_zero, List.getElem?_cons_succ, List.set_cons_zero, List.set_cons_succ, List.length_cons, List.length_nil, Nat.reduceAdd, Nat.reduceSub, List.replicate_succ, List.replicate_zero, Option.some.injEq, V.int.injEq, V.str.injEq, V.bl.injEq, V.ref.injEq, List.cons.injEq, and_true, true_and, exists_eq_left, exists_eq_left', exists_and_left, exists_eq, exists_eq', decide_eq_true_eq, Bool.not_eq_true', decide_eq_false_iff_not, Bool.false_eq_true, if_false, if_true, reduceIte, ite_self, CMul, CPow, CDiv])
    exact ⟨hB, qe⟩
def spIsX (cB : Addr) : Sp := fun vs H Q E => ∃ v0 v1 v2 v3 v4 v5 v6, vs = [v0, v1, v2, v3, v4, v5, v6] ∧ Bad5 H [v0, v1, v2, v3, v4] ∧ ∀ H', Same H H' → E (.ref cB) none H'
theorem okIsX (T : Top K w mg) (XT : ExcTop K mg cP cB) : Ok P w K mg base (L2.CX P w) 6 "is_float_paper" ["floats", "width", "ceiling", "w", "side", "place", "value"] (spIsX cB) := by
  have GFloatAt : Ok P w K mg base (L2.CX P w) 5 "float_at" ["floats", "width", "ceiling", "w", "side"] (spAtX cB) := okAtX T XT
  refine mkOkX T.f_is_float_paper scIsFloatPaper (fun vs H Q E h => ?_) (fun f cdv A outer s H vs Q E hr h => ?_)
  · obtain ⟨_, _, _, _, _, _, _, rfl, _⟩ := h
    rfl
  · obtain ⟨v0, v1, v2, v3, v4, v5, v6, rfl, hB, qe⟩ := h
    refine ⟨_, pss_cons (ps_set (i := 7) scIsFloatPaper.nd rfl (Or.inl rfl) (pcallX GFloatAt (hr.mono (by decide)) (by rfl) (takes_of rfl rfl rfl rfl) (pa_cons (pv 0) (pa_cons (pv 1) (pa_cons (pv 2) (pa_cons (pv 3) (pa_cons (pv 4) pa_nil))))))) pss_never, ?_⟩
    (try simp only [cx_K, cx_w, rIn, rMulS, CwR.tReplC, tM1, tBM0, rPop, rExtend, rReverse, rLenS, rEqE, rNeE, rSetL, rIntI, rIntB, tBM, rAppend, rIxL, rIxT, rCat, rSlL, rSlS, gTup, tYes, wipe, tSeq, tAsg, tIfS, tRet, tRetN, tDrop, tNext, tBreak, tCont, tNever, tAug, ipI, tPar, tPar3, gName, gCons, gNil, gSub, tVar, tC, tOp, tUn, tIf, tAndV, tOrV, tNotV, tAnd, tOr, tNot, L2.tB, tTest, tCmp, tChain, tCB, tCons, tNil, tCall, tCallS, tTup, tLst, tSl, tPart, tNoPart, rI, rI0, rU, rEq, rNe, scal_ii, scal_ss, scal_bb, scal_nn, scal_is, scal_si, rIxS, S_len, S_cps, S_inj, L2.start, List.map_cons, List.map_nil, List.cons_append, List.nil_append, List.append_nil, List.getElem?_cons_zero, List.getElem?_cons_succ, List.set_cons_zero, List.set_cons_succ, List.length_cons, List.length_nil, Nat.reduceAdd, Nat.reduceSub, List.replicate_succ, List.replicate_zero, Option.some.injEq, V.int.injEq, V.str.injEq, V.bl.injEq, V.ref.injEq, List.cons.injEq, and_true, true_and, exists_eq_left, exists_eq_left', exists_and_left, exists_eq, exists_eq', decide_eq_true_eq, Bool.not_eq_true', decide_eq_false_iff_not, Bool.false_eq_true, if_false, if_true, reduceIte, ite_self, CMul, CPow, CDiv])
    exact ⟨hB, qe⟩
end
end K92


namespace K92
open PySem PySem.Spec PyProof.Rows L2 KB
section
variable {P : Program} {w : World} {K : PySem.W.Frag} {mg : Str → Option Value} {base : Heap} {cP cB : Addr}
def spRefused : Sp := fun vs H Q _ => ∃ k c vp vq vs5, vs = [.int k, .ref c, vp, vq] ∧ H c = some (.tup vs5) ∧ Bad5 H vs5 ∧ ∀ H', Same H H' → Q (.bl true) H'
theorem okRefused (T : Top K w mg) (XT : ExcTop K mg cP cB) : Ok P w K mg base CX0 7 "_law_refused" ["which", "call", "place", "paper"] spRefused := by
  have GAt : Ok P w K mg base (L2.CX P w) 5 "float_at" ["floats", "width", "ceiling", "w", "side"] (spAtX cB) := okAtX T XT
  have GPa : Ok P w K mg base (L2.CX P w) 6 "float_paper" ["floats", "width", "ceiling", "w", "side"] (spAtX cB) := okPaperX T XT
  have GIs : Ok P w K mg base (L2.CX P w) 6 "is_float_paper" ["floats", "width", "ceiling", "w", "side", "place", "value"] (spIsX cB) := okIsX T XT
  refine mkOk T.f__law_refused scLawRefused (fun vs H Q E h => ?_) (fun f cdv A outer s H vs Q E hr h => ?_)
  · obtain ⟨_, _, _, _, _, rfl, _⟩ := h
    rfl
  · obtain ⟨k, c, vp, vq, vs5, rfl, hc, hB, q⟩ := h
    refine ⟨_, pss_cons (ps_asg (pv 1) (pg_tup (n := 5) rfl (pgs_cons (pg_name (i := 4) scLawRefused.nd rfl (Or.inl rfl)) (pgs_cons (pg_name (i := 5) scLawRefused.nd rfl (Or.inl rfl)) (pgs_cons (pg_name (i := 6) scLawRefused.nd rfl (Or.inl rfl)) (pgs_cons (pg_name (i := 7) scLawRefused.nd rfl (Or.inl rfl)) (pgs_cons (pg_name (i := 8) scLawRefused.nd rfl (Or.inl rfl)) pgs_nil)))))))
      (pss_cons (ps_try_many (Wout := fun _ _ _ _ => False) rfl rfl takes0
        (fun W pn xe tk _ => pss_one (ps_if (pt_cmpR op_eq (pv 0) pe_int (nomark _))
          (pss_one (ps_expr (pcallX GAt (hr.mono (by decide)) (by rfl) tk (pa_cons (pv 4) (pa_cons (pv 5) (pa_cons (pv 6) (pa_cons (pv 7) (pa_cons (pv 8) pa_nil))))))))
          (pss_one (ps_if (pt_cmpR op_eq (pv 0) pe_int (nomark _))
            (pss_one (ps_expr (pcallX GPa (hr.mono (by decide)) (by rfl) tk (pa_cons (pv 4) (pa_cons (pv 5) (pa_cons (pv 6) (pa_cons (pv 7) (pa_cons (pv 8) pa_nil))))))))
            (pss_one (ps_expr (pcallX GIs (hr.mono (by decide)) (by rfl) tk (pa_cons (pv 4) (pa_cons (pv 5) (pa_cons (pv 6) (pa_cons (pv 7) (pa_cons (pv 8) (pa_cons (pv 2) (pa_cons (pv 3) pa_nil))))))))))))))
        (HdsOk.cons (c := .ref cB) ⟨rfl, by decide, Or.inl XT.gB⟩ (fun a oe cls d pn hz hf => pss_one (ps_ret pe_bl)) (HdsOk.cons (c := .ref cP) ⟨rfl, by decide, Or.inl XT.gP⟩ (fun a oe cls d pn hz hf => pss_one (ps_ret pe_bl)) .nil)))
      (pss_one (ps_ret pe_bl))), ?_⟩
    (try simp only [cx_K, cx_w, rIn, rMulS, CwR.tReplC, tM1, tBM0, rPop, rExtend, rReverse, rLenS, rEqE, rNeE, rSetL, rIntI, rIntB, tBM, rAppend, rIxL, rIxT, rCat, rSlL, rSlS, gTup, tYes, wipe, tSeq, tAsg, tIfS, tRet, tRetN, tDrop, tNext, tBreak, tCont, tNever, tAug, ipI, tPar, tPar3, gName, gCons, gNil, gSub, tVar, tC, tOp, tUn, tIf, tAndV, tOrV, tNotV, tAnd, tOr, tNot, L2.tB, tTest, tCmp, tChain, tCB, tCons, tNil, tCall, tCallS, tTup, tLst, tSl, tPart, tNoPart, rI, rI0, rU, rEq, rNe, scal_ii, scal_ss, scal_bb, scal_nn, scal_is, scal_si, rIxS, S_len, S_cps, S_inj, L2.start, List.map_cons, List.map_nil, List.cons_append, List.nil_append, List.append_nil, List.getElem?_cons_zero, List.getElem?_cons_succ, List.set_cons_zero, List.set_cons_succ, List.length_cons, List.length_nil, Nat.reduceAdd, Nat.reduceSub, List.replicate_succ, List.replicate_zero, Option.some.injEq, V.int.injEq, V.str.injEq, V.bl.injEq, V.ref.injEq, List.cons.injEq, and_true, true_and, exists_eq_left, exists_eq_left', exists_and_left, exists_eq, exists_eq', decide_eq_true_eq, Bool.not_eq_true', decide_eq_false_iff_not, Bool.false_eq_true, if_false, if_true, reduceIte, ite_self, CMul, CPow, CDiv])
    obtain ⟨v0, v1, v2, v3, v4, rfl⟩ : ∃ a b c d e, vs5 = [a, b, c, d, e] := by
      obtain ⟨_, _, _, _, _, _, _, _, _, _, rfl, _⟩ := hB
      exact ⟨_, _, _, _, _, rfl⟩
    refine ⟨_, SqT.of hc, rfl, _, _, rfl, _, _, rfl, _, _, rfl, _, _, rfl, _, _, rfl, rfl, ite2 (fun _ => ⟨hB, fun H1 s1 => ?_⟩) (fun _ => ite2 (fun _ => ⟨hB, fun H1 s1 => ?_⟩) (fun _ => ⟨_, _, _, _, _, _, _, rfl, hB, fun H1 s1 => ?_⟩))⟩
    all_goals exact ⟨true, XT.mB, fun _ a _ => q H1 s1, fun z => nomatch z⟩
end
end K92


namespace K92
open PySem PySem.Spec PyProof.Rows L2 KB
section
variable {P : Program} {w : World} {K : PySem.W.Frag} {mg : Str → Option Value} {base : Heap}
theorem lst_keep {Q p : Addr} {H0 H H1 : Hp} {o : HO} (st : Pst Q H0 H) (hp : H p = none) (st1 : Pst Q (upd H p o) H1) : H1 p = some o := st1.kp p _ (st.ne hp) upd_same
theorem atI_mem {xs : List V} {r : Int} (h0 : 0 ≤ r) (h1 : r < (xs.length : Nat)) : ∃ v, atI xs r = some v ∧ v ∈ xs := by
  obtain ⟨n, rfl⟩ := Int.eq_ofNat_of_zero_le h0
  have hn : n < xs.length := by omega
  exact ⟨xs[n], at_nat (List.getElem?_eq_getElem hn), List.getElem_mem hn⟩
theorem ints_mem {ns : List Int} {r : Int} (h0 : 0 ≤ r) (h1 : r < (ns.length : Nat)) : ∃ z, atI (ns.map V.int) r = some (.int z) ∧ z ∈ ns := by
  obtain ⟨v, e, h⟩ := atI_mem (xs := ns.map V.int) h0 (by rw [List.length_map]; exact h1)
  obtain ⟨z, hz, rfl⟩ := List.mem_map.mp h
  exact ⟨z, e, hz⟩
def spFar : Sp := fun vs H Q _ => ∃ (P : Addr) (m : Int), vs = [.ref P, .int m] ∧ PoolAt P H ∧ 0 < m ∧ ∀ r H', 0 ≤ r → r < m → Pst P H H' → Q (.int r) H'
theorem okFar (T : Top K w mg) : Ok P w K mg base CX0 2 "_law_far" ["pool", "many"] spFar := by
  have GLawPick : Ok P w K mg base CX0 1 "_law_pick" ["pool", "many"] spPick := okPick T
  have m_int := T.m_int
  refine mkOk T.f__law_far scLawFar (fun vs H Q E h => ?_) (fun f cdv A outer s H vs Q E hr h => ?_)
  · obtain ⟨_, _, rfl, _⟩ := h
    rfl
  · obtain ⟨Pa, m, rfl, hP, hm, q⟩ := h
    refine ⟨_, pss_one (ps_ret (pe_op op_mod (pe_callTy call_intI (by rfl) m_int (by decide +kernel) (pa_cons (pe_op op_add (pe_op op_add (pe_op op_mul (pcall GLawPick (hr.mono (by decide)) (by rfl) pass0 (pa_cons (pv 0) (pa_cons (pe_int) pa_nil))) (pe_int)) (pe_op op_mul (pcall GLawPick (hr.mono (by decide)) (by rfl) pass0 (pa_cons (pv 0) (pa_cons (pe_int) pa_nil))) (pe_int))) (pcall GLawPick (hr.mono (by decide)) (by rfl) pass0 (pa_cons (pv 0) (pa_cons (pe_int) pa_nil)))) pa_nil)) (pv 1))), ?_⟩
    (try simp only [cx_K, cx_w, rIn, rMulS, CwR.tReplC, tM1, tBM0, rPop, rExtend, rReverse, rLenS, rEqE, rNeE, rSetL, rIntI, rIntB, tBM, rAppend, rIxL, rIxT, rCat, rSlL, rSlS, gTup, tYes, wipe, tSeq, tAsg, tIfS, tRet, tRetN, tDrop, tNext, tBreak, tCont, tNever, tAug, ipI, tPar, tPar3, gName, gCons, gNil, gSub, tVar, tC, tOp, tUn, tIf, tAndV, tOrV, tNotV, tAnd, tOr, tNot, L2.tB, tTest, tCmp, tChain, tCB, tCons, tNil, tCall, tCallS, tTup, tLst, tSl, tPart, tNoPart, rI, rI0, rU, rEq, rNe, scal_ii, scal_ss, scal_bb, scal_nn, scal_is, scal_si, rIxS, S_len, S_cps, S_inj, L2.start, List.map_cons, List.map_nil, List.cons_append, List.nil_append, List.append_nil, List.getElem?_cons_zero, List.getElem?_cons_succ, List.set_cons_zero, List.set_cons_succ, List.length_cons, List.length_nil, Nat.reduceAdd, Nat.reduceSub, List.replicate_succ, List.replicate_zero, Option.some.injEq, V.int.injEq, V.str.injEq, V.bl.injEq, V.ref.injEq, List.cons.injEq, and_true, true_and, exists_eq_left, exists_eq_left', exists_and_left, exists_eq, exists_eq', decide_eq_true_eq, Bool.not_eq_true', decide_eq_false_iff_not, Bool.false_eq_true, if_false, if_true, reduceIte, ite_self, CMul, CPow, CDiv])
    refine ⟨Pa, 60, rfl, hP, by decide, fun a H1 a0 a1 st1 => ⟨a, rfl, .inr ⟨by decide, by decide⟩, Pa, 60, rfl, st1.pool, by decide, fun b H2 b0 b1 st2 => ⟨b, rfl, .inr ⟨by decide, by decide⟩, Pa, 60, rfl, st2.pool, by decide, fun c H3 c0 c1 st3 => ⟨c, rfl, hm, q _ H3 (Int.emod_nonneg _ (by omega)) (Int.emod_lt_of_pos _ hm) ((st1.trans st2).trans st3)⟩⟩⟩⟩
def spWide : Sp := fun vs H Q _ => ∃ (P : Addr), vs = [.ref P] ∧ PoolAt P H ∧ ∀ r H', 1 ≤ r → r ≤ 1000000000 → Pst P H H' → Q (.int r) H'
theorem okWide (T : Top K w mg) : Ok P w K mg base CX0 3 "_law_wide" ["pool"] spWide := by
  have GLawPick : Ok P w K mg base CX0 1 "_law_pick" ["pool", "many"] spPick := okPick T
  have GLawFar : Ok P w K mg base CX0 2 "_law_far" ["pool", "many"] spFar := okFar T
  refine mkOk T.f__law_wide scLawWide (fun vs H Q E h => ?_) (fun f cdv A outer s H vs Q E hr h => ?_)
  · obtain ⟨_, rfl, _⟩ := h
    rfl
  · obtain ⟨Pa, rfl, hP, q⟩ := h
    refine ⟨_, pss_one (ps_ret (pe_ix ix_list (pe_lst (pa_cons (pe_int) (pa_cons (pe_int) (pa_cons (pe_int) (pa_cons (pe_int) (pa_cons (pe_int) (pa_cons (pe_int) (pa_cons (pe_op op_pow (pe_int) (pe_int)) (pa_cons (pe_op op_add (pe_int) (pcall GLawFar (hr.mono (by decide)) (by rfl) pass0 (pa_cons (pv 0) (pa_cons (pe_int) pa_nil)))) pa_nil))))))))) (pcall GLawPick (hr.mono (by decide)) (by rfl) pass0 (pa_cons (pv 0) (pa_cons (pe_int) pa_nil))) (fun _ _ => rfl))), ?_⟩
    (try simp only [cx_K, cx_w, rIn, rMulS, CwR.tReplC, tM1, tBM0, rPop, rExtend, rReverse, rLenS, rEqE, rNeE, rSetL, rIntI, rIntB, tBM, rAppend, rIxL, rIxT, rCat, rSlL, rSlS, gTup, tYes, wipe, tSeq, tAsg, tIfS, tRet, tRetN, tDrop, tNext, tBreak, tCont, tNever, tAug, ipI, tPar, tPar3, gName, gCons, gNil, gSub, tVar, tC, tOp, tUn, tIf, tAndV, tOrV, tNotV, tAnd, tOr, tNot, L2.tB, tTest, tCmp, tChain, tCB, tCons, tNil, tCall, tCallS, tTup, tLst, tSl, tPart, tNoPart, rI, rI0, rU, rEq, rNe, scal_ii, scal_ss, scal_bb, scal_nn, scal_is, scal_si, rIxS, S_len, S_cps, S_inj, L2.start, List.map_cons, List.map_nil, List.cons_append, List.nil_append, List.append_nil, List.getElem?_cons_zero, List.getElem?_cons_succ, List.set_cons_zero, List.set_cons_succ, List.length_cons, List.length_nil, Nat.reduceAdd, Nat.reduceSub, List.replicate_succ, List.replicate_zero, Option.some.injEq, V.int.injEq, V.str.injEq, V.bl.injEq, V.ref.injEq, List.cons.injEq, and_true, true_and, exists_eq_left, exists_eq_left', exists_and_left, exists_eq, exists_eq', decide_eq_true_eq, Bool.not_eq_true', decide_eq_false_iff_not, Bool.false_eq_true, if_false, if_true, reduceIte, ite_self, CMul, CPow, CDiv])
    refine ⟨⟨by decide, by decide, by decide⟩, Pa, 200000, rfl, hP, by decide, fun a H1 a0 a1 st1 => ⟨a, rfl, by decide, fun p hp => ⟨Pa, 8, rfl, (st1.new hp).pool, by decide, fun k H2 k0 k1 st2 => ?_⟩⟩⟩
    have ep := lst_keep st1 hp st2
    obtain ⟨v, ev, hv⟩ := atI_mem (xs := [V.int 1, V.int 1, V.int 1, V.int 2, V.int 7, V.int 1000, V.int (10 ^ Int.toNat 9), V.int (1 + a)]) k0 k1
    have st := (st1.new hp).trans st2
    refine ⟨_, k, rfl, SqL.of ep, v, ev, ?_⟩
    have fin : ∀ r : Int, v = .int r → 1 ≤ r → r ≤ 1000000000 → Q v H2 := fun r e h1 h2 => e ▸ q r H2 h1 h2 st
    simp only [List.mem_cons, List.not_mem_nil, or_false] at hv
    rcases hv with e | e | e | e | e | e | e | e
    · exact fin _ e (by decide) (by decide)
    · exact fin _ e (by decide) (by decide)
    · exact fin _ e (by decide) (by decide)
    · exact fin _ e (by decide) (by decide)
    · exact fin _ e (by decide) (by decide)
    · exact fin _ e (by decide) (by decide)
    · exact fin _ e (by decide) (by decide)
    · exact fin _ e (by omega) (by omega)
theorem own_upd {p t : Addr} {H H7 : Hp} {o u : HO} (ht : H7 t = none) : Same (hide [p] (since H H7)) (hide [p] (since H (upd (upd H7 t u) p o))) := fun b x e => by
  obtain ⟨e1, e2⟩ := hide_some.mp e
  obtain ⟨e3, e4⟩ := since_some.mp e2
  refine hide_some.mpr ⟨e1, since_some.mpr ⟨e3, ?_⟩⟩
  rw [upd_ne (by simpa using e1), upd_ne (fun z => by rw [z, ht] at e4; cases e4)]
  exact e4
/-- one more thing at the end of a list of one's own -/
theorem own_app {P p t : Addr} {H H2 H7 : Hp} {ds es : List D} {xs ys : List V} {o : HO} (hP : H P ≠ none) (st2 : Pst P H H2) (st : Pst P H2 H7) (e2 : ∃ u, H2 p = some u) (np : p ≠ P) (ht : H7 t = none)
    (R : Reps (hide [p] (since H H2)) ds xs) (R2 : Reps (hide [p] (since H H7)) es ys) : Reps (hide [p] (since H (upd (upd H7 t (.tup ys)) p o))) (ds ++ [.tup es]) (xs ++ [.ref t]) := by
  obtain ⟨u, e2⟩ := e2
  have ntp : t ≠ p := fun z => by
    have := st.kp p u np e2
    rw [← z, ht] at this
    cases this
  have S := own_upd (p := p) (H := H) (o := o) (u := .tup ys) ht
  refine (R.mono ((Pst.since hP st).hide.trans S)).snoc ⟨t, ys, rfl, hide_some.mpr ⟨by simp [ntp], since_some.mpr ⟨(st2.trans st).free ht, ?_⟩⟩, R2.mono S⟩
  rw [upd_ne ntp, upd_same]
theorem sorted_snoc : ∀ {F : List Fl} {f : Fl}, sortedT F = true → (∀ g ∈ F, g.t ≤ f.t) → sortedT (F ++ [f]) = true
  | [], _, _, _ => rfl
  | [g], f, _, h => by
    show (decide (g.t ≤ f.t) && true) = true
    rw [decide_eq_true (h g List.mem_cons_self)]
    rfl
  | a :: g :: F, f, hs, h => by
    have hs : (decide (a.t ≤ g.t) && sortedT (g :: F)) = true := hs
    rw [Bool.and_eq_true] at hs
    show (decide (a.t ≤ g.t) && sortedT ((g :: F) ++ [f])) = true
    rw [hs.1, sorted_snoc hs.2 (fun x hx => h x (List.mem_cons_of_mem _ hx))]
    rfl
structure MadeF (F : List Fl) (n : Nat) (wd : Int) : Prop where
  len : F.length = n
  sorted : sortedT F = true
  bd : ∀ f ∈ F, f.l ≤ f.r ∧ f.t ≤ f.b ∧ f.b ≤ f.t + 7 ∧ -100 ≤ f.l ∧ f.r ≤ 100 ∧ 0 ≤ f.t ∧ f.t ≤ 320
def spFloats : Sp := fun vs H Q _ => ∃ (P : Addr) (n : Nat) (wd : Int), vs = [.ref P, .int (n : Nat), .int wd] ∧ PoolAt P H ∧ n ≤ 100 ∧ 0 ≤ wd ∧ wd ≤ 24 ∧ ∀ (F : List Fl) (t : Addr) (H' : Hp), MadeF F n wd → Pst P H H' → H t = none → Rep (since H H') (flsD F) (.ref t) → Q (.ref t) H'
theorem okFloats (T : Top K w mg) : Ok P w K mg base CX0 2 "_law_floats" ["pool", "many", "width"] spFloats := by
  have GLawPick : Ok P w K mg base CX0 1 "_law_pick" ["pool", "many"] spPick := okPick T
  have m_range := T.m_range
  refine mkOk T.f__law_floats scLawFloats (fun vs H Q E h => ?_) (fun f cdv A outer s H vs Q E hr h => ?_)
  · obtain ⟨_, _, _, rfl, _⟩ := h
    rfl
  · obtain ⟨Pa, n, wd, rfl, hP, hn, hw0, hw1, q⟩ := h
    refine ⟨_, pss_cons (ps_par (i := 3) (j := 4) rfl scLawFloats.nd rfl rfl (by decide) rfl rfl (pa_cons (pe_lst (pa_nil)) (pa_cons (pcall GLawPick (hr.mono (by decide)) (by rfl) pass0 (pa_cons (pv 0) (pa_cons (pe_int) pa_nil))) pa_nil)) (by rfl))
  (pss_cons (ps_for PassesOwn.never rfl (pi_range1 rfl m_range (pa_cons (pv 1) pa_nil)) (pg_name (i := 5) scLawFloats.nd rfl (Or.inl rfl))
  (pss_cons (ps_set (i := 4) scLawFloats.nd rfl (Or.inl rfl) (pe_op op_add (pv 4) (pe_ix ix_list (pe_lst (pa_cons (pe_int) (pa_cons (pe_int) (pa_cons (pe_int) (pa_cons (pe_int) (pa_cons (pe_int) (pa_cons (pe_int) (pa_cons (pe_int) pa_nil)))))))) (pcall GLawPick (hr.mono (by decide)) (by rfl) pass0 (pa_cons (pv 0) (pa_cons (pe_int) pa_nil))) (fun _ _ => rfl))))
  (pss_cons (ps_par (i := 6) (j := 7) rfl scLawFloats.nd rfl rfl (by decide) rfl rfl (pa_cons (pe_ix ix_list (pe_lst (pa_cons (pe_int) (pa_cons (pe_int) (pa_cons (pe_int) (pa_cons (pe_int) (pa_cons (pe_int) (pa_cons (pe_int) (pa_cons (pe_int) (pa_cons (pe_int) (pa_cons (pe_int) (pa_cons (pe_int) pa_nil))))))))))) (pcall GLawPick (hr.mono (by decide)) (by rfl) pass0 (pa_cons (pv 0) (pa_cons (pe_int) pa_nil))) (fun _ _ => rfl)) (pa_cons (pcall GLawPick (hr.mono (by decide)) (by rfl) pass0 (pa_cons (pv 0) (pa_cons (pe_int) pa_nil))) pa_nil)) (by rfl))
  (pss_cons (ps_set (i := 8) scLawFloats.nd rfl (Or.inl rfl) (pe_op op_sub (pcall GLawPick (hr.mono (by decide)) (by rfl) pass0 (pa_cons (pv 0) (pa_cons (pe_op op_add (pv 2) (pe_int)) pa_nil))) (pe_int)))
  (pss_one (ps_if (pt_cmpR op_eq (pcall GLawPick (hr.mono (by decide)) (by rfl) pass0 (pa_cons (pv 0) (pa_cons (pe_int) pa_nil))) (pe_int) (nomark _))
  (pss_one (ps_expr (pe_bm PySem.F.plainAttrs_list PySem.F.slot_list_append PySem.F.type_list_append mt_append (pv 3) (pa_cons (pe_tup (pa_cons (pe_str) (pa_cons (pe_op op_sub (pv 8) (pv 6)) (pa_cons (pv 8) (pa_cons (pv 4) (pa_cons (pe_op op_add (pv 4) (pv 7)) pa_nil)))))) pa_nil))))
  (pss_one (ps_expr (pe_bm PySem.F.plainAttrs_list PySem.F.slot_list_append PySem.F.type_list_append mt_append (pv 3) (pa_cons (pe_tup (pa_cons (pe_str) (pa_cons (pe_op op_sub (pv 2) (pv 8)) (pa_cons (pe_op op_add (pe_op op_sub (pv 2) (pv 8)) (pv 6)) (pa_cons (pv 4) (pa_cons (pe_op op_add (pv 4) (pv 7)) pa_nil)))))) pa_nil))))))))))
  (pss_one (ps_ret (pv 3)))), ?_⟩
    (try simp only [cx_K, cx_w, rIn, rMulS, CwR.tReplC, tM1, tBM0, rPop, rExtend, rReverse, rLenS, rEqE, rNeE, rSetL, rIntI, rIntB, tBM, rAppend, rIxL, rIxT, rCat, rSlL, rSlS, gTup, tYes, wipe, tSeq, tAsg, tIfS, tRet, tRetN, tDrop, tNext, tBreak, tCont, tNever, tAug, ipI, tPar, tPar3, gName, gCons, gNil, gSub, tVar, tC, tOp, tUn, tIf, tAndV, tOrV, tNotV, tAnd, tOr, tNot, L2.tB, tTest, tCmp, tChain, tCB, tCons, tNil, tCall, tCallS, tTup, tLst, tSl, tPart, tNoPart, rI, rI0, rU, rEq, rNe, scal_ii, scal_ss, scal_bb, scal_nn, scal_is, scal_si, rIxS, S_len, S_cps, S_inj, L2.start, List.map_cons, List.map_nil, List.cons_append, List.nil_append, List.append_nil, List.getElem?_cons_zero, List.getElem?_cons_succ, List.set_cons_zero, List.set_cons_succ, List.length_cons, List.length_nil, Nat.reduceAdd, Nat.reduceSub, List.replicate_succ, List.replicate_zero, Option.some.injEq, V.int.injEq, V.str.injEq, V.bl.injEq, V.ref.injEq, List.cons.injEq, and_true, true_and, exists_eq_left, exists_eq_left', exists_and_left, exists_eq, exists_eq', decide_eq_true_eq, Bool.not_eq_true', decide_eq_false_iff_not, Bool.false_eq_true, if_false, if_true, reduceIte, ite_self, CMul, CPow, CDiv])
    refine ⟨Nat.zero_le _, fun p hp => ⟨Pa, 6, rfl, (PoolAt.upd hP (fun e => by rw [e] at hp; exact hP.ne hp)), by decide, fun tp H1 tp0 tp1 st1 => ⟨_, _, ⟨rfl, rfl⟩, ?_⟩⟩⟩
    have sa : Pst Pa H H1 := ((Pst.refl hP).new hp).trans st1
    have npP : p ≠ Pa := fun e => by rw [e] at hp; exact hP.ne hp
    have ep : H1 p = some (.lst []) := st1.kp p _ npP upd_same
    refine ⟨_, rfl, _, rfl, by omega, by omega, for_range (lo := 0) (n := ((n : Nat) : Int).toNat) (fun i σ H2 => ∃ (F : List Fl) (xs : List V) (top : Int) (e5 e6 e7 e8 : Option V), σ = [some (.ref Pa), some (.int (n : Nat)), some (.int wd), some (.ref p), some (.int top), e5, e6, e7, e8] ∧ Pst Pa H H2 ∧ H2 p = some (.lst xs) ∧ Reps (hide [p] (since H H2)) (F.map flD) xs ∧
      F.length = i ∧ sortedT F = true ∧ (∀ f ∈ F, f.l ≤ f.r ∧ f.t ≤ f.b ∧ f.b ≤ f.t + 7 ∧ -100 ≤ f.l ∧ f.r ≤ 100 ∧ 0 ≤ f.t ∧ f.t ≤ top) ∧ 0 ≤ top ∧ top ≤ 5 + 3 * (i : Nat)) ?_ ?_ ?_⟩
    · exact ⟨[], [], tp, _, _, _, _, rfl, sa, ep, rfl, rfl, rfl, (fun f hf => nomatch hf), tp0, by omega⟩
    · rintro i σ H2 hi ⟨F, xs, top, e5, e6, e7, e8, rfl, st2, ep2, hR, hl, hs, hb, ht0, ht1⟩
      have hi' : i < n := by omega
      (try simp only [cx_K, cx_w, rIn, rMulS, CwR.tReplC, tM1, tBM0, rPop, rExtend, rReverse, rLenS, rEqE, rNeE, rSetL, rIntI, rIntB, tBM, rAppend, rIxL, rIxT, rCat, rSlL, rSlS, gTup, tYes, wipe, tSeq, tAsg, tIfS, tRet, tRetN, tDrop, tNext, tBreak, tCont, tNever, tAug, ipI, tPar, tPar3, gName, gCons, gNil, gSub, tVar, tC, tOp, tUn, tIf, tAndV, tOrV, tNotV, tAnd, tOr, tNot, L2.tB, tTest, tCmp, tChain, tCB, tCons, tNil, tCall, tCallS, tTup, tLst, tSl, tPart, tNoPart, rI, rI0, rU, rEq, rNe, scal_ii, scal_ss, scal_bb, scal_nn, scal_is, scal_si, rIxS, S_len, S_cps, S_inj, L2.start, List.map_cons, List.map_nil, List.cons_append, List.nil_append, List.append_nil, List.getElem?_cons_zero, List.getElem?_cons_succ, List.set_cons_zero, List.set_cons_succ, List.length_cons, List.length_nil, Nat.reduceAdd, Nat.reduceSub, List.replicate_succ, List.replicate_zero, Option.some.injEq, V.int.injEq, V.str.injEq, V.bl.injEq, V.ref.injEq, List.cons.injEq, and_true, true_and, exists_eq_left, exists_eq_left', exists_and_left, exists_eq, exists_eq', decide_eq_true_eq, Bool.not_eq_true', decide_eq_false_iff_not, Bool.false_eq_true, if_false, if_true, reduceIte, ite_self, CMul, CPow, CDiv])
      refine ⟨by decide, fun q1 hq1 => ⟨Pa, 7, rfl, (st2.new hq1).pool, by decide, fun k1 H3 k10 k11 st3 => ?_⟩⟩
      obtain ⟨d1, ed1, hd1⟩ := ints_mem (ns := [0, 0, 0, 1, 1, 2, 3]) k10 k11
      have hd1' : 0 ≤ d1 ∧ d1 ≤ 3 := by simp at hd1; omega
      have st23 := ((Pst.refl st2.pool).new (o := .lst [V.int 0, V.int 0, V.int 0, V.int 1, V.int 1, V.int 2, V.int 3]) hq1).trans st3
      refine ⟨_, k1, rfl, SqL.of (lst_keep st2 hq1 st3), _, ed1, d1, rfl, by decide, fun q2 hq2 => ⟨Pa, 10, rfl, (st23.new hq2).pool, by decide, fun k2 H4 k20 k21 st4 => ?_⟩⟩
      obtain ⟨lg, elg, hlg⟩ := ints_mem (ns := [0, 1, 1, 2, 3, 4, 5, 6, 7, 9]) k20 k21
      have hlg' : 0 ≤ lg ∧ lg ≤ 9 := by simp at hlg; omega
      have st24 := (st23.new (o := .lst [V.int 0, V.int 1, V.int 1, V.int 2, V.int 3, V.int 4, V.int 5, V.int 6, V.int 7, V.int 9]) hq2).trans st4
      refine ⟨_, k2, rfl, SqL.of (lst_keep st23 hq2 st4), _, elg, Pa, 8, rfl, st24.pool, by decide, fun hg H5 hg0 hg1 st5 => ⟨_, _, ⟨rfl, rfl⟩, Pa, wd + 5, rfl, st5.pool, by omega, fun ed H6 ed0 ed1 st6 => ⟨ed, rfl, Pa, 2, rfl, st6.pool, by decide, fun sd H7 sd0 sd1 st7 => ⟨rfl, ?_⟩⟩⟩⟩
      have st27 := ((st24.trans st5).trans st6).trans st7
      have ep7 : H7 p = some (.lst xs) := st27.kp p _ npP ep2
      have hxl := hR.length
      rw [List.length_map] at hxl
      have fin : ∀ (f : Fl) (t : Addr), H7 t = none → f.l ≤ f.r ∧ f.t ≤ f.b ∧ f.b ≤ f.t + 7 ∧ -100 ≤ f.l ∧ f.r ≤ 100 ∧ f.t = top + d1 → ∃ (F' : List Fl) (xs' : List V) (top' : Int) (e5' e6' e7' e8' : Option V), (top + d1 = top' ∧ some (.int (0 + (i : Int))) = e5' ∧ some (.int lg) = e6' ∧ some (.int hg) = e7' ∧ some (.int (ed - 2)) = e8') ∧ Pst Pa H (upd (upd H7 t (.tup [.str (S (sideT f.left)), .int f.l, .int f.r, .int f.t, .int f.b])) p (.lst (xs ++ [.ref t]))) ∧ (upd (upd H7 t (.tup [.str (S (sideT f.left)), .int f.l, .int f.r, .int f.t, .int f.b])) p (.lst (xs ++ [.ref t]))) p = some (.lst xs') ∧ Reps (hide [p] (since H (upd (upd H7 t (.tup [.str (S (sideT f.left)), .int f.l, .int f.r, .int f.t, .int f.b])) p (.lst (xs ++ [.ref t]))))) (F'.map flD) xs' ∧
          F'.length = i + 1 ∧ sortedT F' = true ∧ (∀ f ∈ F', f.l ≤ f.r ∧ f.t ≤ f.b ∧ f.b ≤ f.t + 7 ∧ -100 ≤ f.l ∧ f.r ≤ 100 ∧ 0 ≤ f.t ∧ f.t ≤ top') ∧ 0 ≤ top' ∧ top' ≤ 5 + 3 * ((i + 1 : Nat) : Int) := fun f t ht hf => by
        refine ⟨F ++ [f], _, top + d1, _, _, _, _, ⟨rfl, rfl, rfl, rfl, rfl⟩, ((st2.trans st27).new ht).mut hp npP, upd_same, ?_, by rw [List.length_append, hl]; rfl, sorted_snoc hs (fun g hg => by have := hb g hg; omega), fun g hg => ?_, by omega, by omega⟩
        · rw [List.map_append]
          exact own_app hP.ne st2 st27 ⟨_, ep2⟩ npP ht hR ⟨_, _, rfl, rfl, _, _, rfl, rfl, _, _, rfl, rfl, _, _, rfl, rfl, _, _, rfl, rfl, rfl⟩
        · rcases List.mem_append.mp hg with h | h
          · have := hb g h
            omega
          · rw [List.mem_singleton.mp h]
            omega
      have tk : ∀ t, H7 t = none → ∀ u, upd H7 t u p = some (.lst xs) := fun t ht u => (Same.new ht) _ _ ep7
      refine ite2 (fun _ => ⟨.inl ⟨rfl, _, SqL.of ep7⟩, lg, rfl, hg, rfl, by decide, fun t ht => ⟨xs, tk t ht _, sz5' (by omega), ?_⟩⟩) (fun _ => ⟨.inl ⟨rfl, _, SqL.of ep7⟩, lg, rfl, hg, rfl, by decide, fun t ht => ⟨xs, tk t ht _, sz5' (by omega), ?_⟩⟩)
      · exact fin ⟨true, ed - 2 - lg, ed - 2, top + d1, top + d1 + hg⟩ t ht (by refine ⟨?_, ?_, ?_, ?_, ?_, rfl⟩ <;> simp only <;> omega)
      · exact fin ⟨false, wd - (ed - 2), wd - (ed - 2) + lg, top + d1, top + d1 + hg⟩ t ht (by refine ⟨?_, ?_, ?_, ?_, ?_, rfl⟩ <;> simp only <;> omega)
    · rintro σ H2 ⟨F, xs, top, e5, e6, e7, e8, rfl, st2, ep2, hR, hl, hs, hb, ht0, ht1⟩
      (try simp only [cx_K, cx_w, rIn, rMulS, CwR.tReplC, tM1, tBM0, rPop, rExtend, rReverse, rLenS, rEqE, rNeE, rSetL, rIntI, rIntB, tBM, rAppend, rIxL, rIxT, rCat, rSlL, rSlS, gTup, tYes, wipe, tSeq, tAsg, tIfS, tRet, tRetN, tDrop, tNext, tBreak, tCont, tNever, tAug, ipI, tPar, tPar3, gName, gCons, gNil, gSub, tVar, tC, tOp, tUn, tIf, tAndV, tOrV, tNotV, tAnd, tOr, tNot, L2.tB, tTest, tCmp, tChain, tCB, tCons, tNil, tCall, tCallS, tTup, tLst, tSl, tPart, tNoPart, rI, rI0, rU, rEq, rNe, scal_ii, scal_ss, scal_bb, scal_nn, scal_is, scal_si, rIxS, S_len, S_cps, S_inj, L2.start, List.map_cons, List.map_nil, List.cons_append, List.nil_append, List.append_nil, List.getElem?_cons_zero, List.getElem?_cons_succ, List.set_cons_zero, List.set_cons_succ, List.length_cons, List.length_nil, Nat.reduceAdd, Nat.reduceSub, List.replicate_succ, List.replicate_zero, Option.some.injEq, V.int.injEq, V.str.injEq, V.bl.injEq, V.ref.injEq, List.cons.injEq, and_true, true_and, exists_eq_left, exists_eq_left', exists_and_left, exists_eq, exists_eq', decide_eq_true_eq, Bool.not_eq_true', decide_eq_false_iff_not, Bool.false_eq_true, if_false, if_true, reduceIte, ite_self, CMul, CPow, CDiv])
      refine q F p H2 ⟨by omega, hs, fun f hf => ?_⟩ st2 hp ⟨p, xs, rfl, since_some.mpr ⟨hp, ep2⟩, hR.mono hide_sub⟩
      have := hb f hf
      omega
def covB (side : Bool) (row : Int) (f : Fl) : Bool := decide (f.left = side) && (decide (f.t ≤ row) && decide (row < f.b))
theorem covB_iff {side : Bool} {row : Int} {f : Fl} : covB side row f = true ↔ f.left = side ∧ f.t ≤ row ∧ row < f.b := by
  unfold covB
  rw [Bool.and_eq_true, Bool.and_eq_true, decide_eq_true_eq, decide_eq_true_eq, decide_eq_true_eq]
theorem low_max {F : List Fl} {row m : Int} (h1 : m ∈ 0 :: (F.filter (covB true row)).map (·.r)) (h2 : ∀ x ∈ 0 :: (F.filter (covB true row)).map (·.r), x ≤ m) : m = lowOf F 0 row := by
  obtain ⟨a, b, c⟩ := low_spec F 0 row
  have h3 : lowOf F 0 row ≤ m := by
    rcases c with c | ⟨f, hf, c1, c2, c3, c4⟩
    · rw [c]
      exact h2 0 List.mem_cons_self
    · rw [← c4]
      exact h2 _ (List.mem_cons_of_mem _ (List.mem_map.mpr ⟨f, List.mem_filter.mpr ⟨hf, covB_iff.mpr ⟨c3, c1, c2⟩⟩, rfl⟩))
  have h4 : m ≤ lowOf F 0 row := by
    rcases List.mem_cons.mp h1 with h | h
    · omega
    · obtain ⟨f, hf, rfl⟩ := List.mem_map.mp h
      obtain ⟨hf, hc⟩ := List.mem_filter.mp hf
      obtain ⟨c1, c2, c3⟩ := covB_iff.mp hc
      exact b f hf c2 c3 c1
  omega
theorem high_min {F : List Fl} {width row m : Int} (h1 : m ∈ width :: (F.filter (covB false row)).map (·.l)) (h2 : ∀ x ∈ width :: (F.filter (covB false row)).map (·.l), m ≤ x) : m = highOf F width row := by
  obtain ⟨a, b, c⟩ := high_spec F width row
  have h3 : m ≤ highOf F width row := by
    rcases c with c | ⟨f, hf, c1, c2, c3, c4⟩
    · rw [c]
      exact h2 width List.mem_cons_self
    · rw [← c4]
      exact h2 _ (List.mem_cons_of_mem _ (List.mem_map.mpr ⟨f, List.mem_filter.mpr ⟨hf, covB_iff.mpr ⟨c3, c1, c2⟩⟩, rfl⟩))
  have h4 : highOf F width row ≤ m := by
    rcases List.mem_cons.mp h1 with h | h
    · omega
    · obtain ⟨f, hf, rfl⟩ := List.mem_map.mp h
      obtain ⟨hf, hc⟩ := List.mem_filter.mp hf
      obtain ⟨c1, c2, c3⟩ := covB_iff.mp hc
      exact b f hf c2 c3 c1
  omega
def spLBetween : Sp := fun vs H Q _ => ∃ v F width row, vs = [v, .int width, .int row] ∧ Rep H (flsD F) v ∧ F.length ≤ 1000 ∧ ∀ t H', Same H H' → H t = none → H' t = some (.tup [.int (lowOf F 0 row), .int (highOf F width row)]) → Q (.ref t) H'
theorem okLBetween (T : Top K w mg) : Ok P w K mg base CX0 1 "_law_between" ["floats", "width", "row"] spLBetween := by
  have m_max := T.m_max
  have m_min := T.m_min
  refine mkOk T.f__law_between scLawBetween (fun vs H Q E h => ?_) (fun f cdv A outer s H vs Q E hr h => ?_)
  · obtain ⟨_, _, _, _, rfl, _⟩ := h
    rfl
  · obtain ⟨v, F, width, row, rfl, hF, hn, q⟩ := h
    refine ⟨_, pss_cons (ps_set (i := 3) scLawBetween.nd rfl (Or.inl rfl) (pe_callB (cr_max rfl) (by rfl) m_max (by decide +kernel) (pa_cons (pe_op op_cat (pe_lst (pa_cons (pe_int) pa_nil)) (pe_lc (own := [("one", 5)]) rfl scLawBetween.nd (pi_list (pv 0)) (blkOk_by (own := [("one", 5)]) (N := ["floats", "width", "row", "low", "high", "one"]) (sc := defScope sLawBetween) (by decide +kernel)) (fun _ _ _ _ _ => pg_name (i := 5) scLawBetween.nd rfl (Or.inl rfl)) (fun _ _ _ _ _ => pts_one (PW.pt (pw_and (pt_cmpR op_eq (pe_ix (ix_tupK (K := K) rfl) (pv 5) (pe_int) (fun _ _ => rfl)) (pe_str) (nomark _)) (pw_and1 (pt_chain op_le op_lt (pe_ix (ix_tupK (K := K) rfl) (pv 5) (pe_int) (fun _ _ => rfl)) (pv 2) (pe_ix (ix_tupK (K := K) rfl) (pv 5) (pe_int) (fun _ _ => rfl))))))) (fun _ _ _ _ _ => pe_ix (ix_tupK (K := K) rfl) (pv 5) (pe_int) (fun _ _ => rfl)))) pa_nil)))
  (pss_cons (ps_set (i := 4) scLawBetween.nd rfl (Or.inl rfl) (pe_callB (cr_min rfl) (by rfl) m_min (by decide +kernel) (pa_cons (pe_op op_cat (pe_lst (pa_cons (pv 1) pa_nil)) (pe_lc (own := [("one", 5)]) rfl scLawBetween.nd (pi_list (pv 0)) (blkOk_by (own := [("one", 5)]) (N := ["floats", "width", "row", "low", "high", "one"]) (sc := defScope sLawBetween) (by decide +kernel)) (fun _ _ _ _ _ => pg_name (i := 5) scLawBetween.nd rfl (Or.inl rfl)) (fun _ _ _ _ _ => pts_one (PW.pt (pw_and (pt_cmpR op_eq (pe_ix (ix_tupK (K := K) rfl) (pv 5) (pe_int) (fun _ _ => rfl)) (pe_str) (nomark _)) (pw_and1 (pt_chain op_le op_lt (pe_ix (ix_tupK (K := K) rfl) (pv 5) (pe_int) (fun _ _ => rfl)) (pv 2) (pe_ix (ix_tupK (K := K) rfl) (pv 5) (pe_int) (fun _ _ => rfl))))))) (fun _ _ _ _ _ => pe_ix (ix_tupK (K := K) rfl) (pv 5) (pe_int) (fun _ _ => rfl)))) pa_nil)))
  (pss_one (ps_ret (pe_tup (pa_cons (pv 3) (pa_cons (pv 4) pa_nil)))))), ?_⟩
    (try simp only [cx_K, cx_w, rIn, rMulS, CwR.tReplC, tM1, tBM0, rPop, rExtend, rReverse, rLenS, rEqE, rNeE, rSetL, rIntI, rIntB, tBM, rAppend, rIxL, rIxT, rCat, rSlL, rSlS, gTup, tYes, wipe, tSeq, tAsg, tIfS, tRet, tRetN, tDrop, tNext, tBreak, tCont, tNever, tAug, ipI, tPar, tPar3, gName, gCons, gNil, gSub, tVar, tC, tOp, tUn, tIf, tAndV, tOrV, tNotV, tAnd, tOr, tNot, L2.tB, tTest, tCmp, tChain, tCB, tCons, tNil, tCall, tCallS, tTup, tLst, tSl, tPart, tNoPart, rI, rI0, rU, rEq, rNe, scal_ii, scal_ss, scal_bb, scal_nn, scal_is, scal_si, rIxS, S_len, S_cps, S_inj, L2.start, List.map_cons, List.map_nil, List.cons_append, List.nil_append, List.append_nil, List.getElem?_cons_zero, List.getElem?_cons_succ, List.set_cons_zero, List.set_cons_succ, List.length_cons, List.length_nil, Nat.reduceAdd, Nat.reduceSub, List.replicate_succ, List.replicate_zero, Option.some.injEq, V.int.injEq, V.str.injEq, V.bl.injEq, V.ref.injEq, List.cons.injEq, and_true, true_and, exists_eq_left, exists_eq_left', exists_and_left, exists_eq, exists_eq', decide_eq_true_eq, Bool.not_eq_true', decide_eq_false_iff_not, Bool.false_eq_true, if_false, if_true, reduceIte, ite_self, CMul, CPow, CDiv])
    obtain ⟨a, xs, rfl, ha, hX⟩ := hF
    have hln := hX.len2
    refine ⟨by decide, fun p hp => ?_⟩
    have s1 : Same H (upd H p (.lst [.int 0])) := Same.new hp
    refine ⟨.ref a, rfl, a, rfl, ⟨_, SqL.of (s1 _ _ ha)⟩, fun d hd => lc_list (xs := xs) (fun i H3 => Same (upd H p (.lst [.int 0])) H3 ∧ H3 d = some (.lst ((((F.take i).filter (covB true row)).map (·.r)).map V.int))) ⟨Same.new hd, upd_same⟩ (fun i H3 _ h => SqL.of (h.1 _ _ (s1 _ _ ha))) (fun i x H3 hx hP => ?_) (fun H3 hP => ?_)⟩
    · obtain ⟨s3, e3⟩ := hP
      have hi : i < F.length := by
        have := (List.getElem?_eq_some_iff.mp hx).1
        omega
      have hf : F[i]? = some F[i] := List.getElem?_eq_getElem hi
      obtain ⟨t, e, et⟩ := fl_at hX hf
      rw [hx] at e
      have e := Option.some.inj e
      subst e
      have et3 := s3 _ _ (s1 _ _ et)
      have hnext : ((F.take (i + 1)).filter (covB true row)).map (·.r) = ((F.take i).filter (covB true row)).map (·.r) ++ ([F[i]].filter (covB true row)).map (·.r) := by
        rw [take_snoc hf, List.filter_append, List.map_append]
      have hle : (((F.take i).filter (covB true row)).map (·.r)).length ≤ 1000 := by
        rw [List.length_map]
        refine Nat.le_trans (List.length_filter_le _ _) ?_
        rw [List.length_take]
        omega
      have skip : covB true row F[i] = false → Same (upd H p (.lst [.int 0])) H3 ∧ H3 d = some (.lst ((((F.take (i + 1)).filter (covB true row)).map (·.r)).map V.int)) := fun hc => by
        rw [hnext, List.filter_cons, if_neg (by rw [hc]; exact Bool.false_ne_true), e3]
        exact ⟨s3, by simp⟩
      refine ⟨rfl, ?_⟩
      (try simp only [cx_K, cx_w, rIn, rMulS, CwR.tReplC, tM1, tBM0, rPop, rExtend, rReverse, rLenS, rEqE, rNeE, rSetL, rIntI, rIntB, tBM, rAppend, rIxL, rIxT, rCat, rSlL, rSlS, gTup, tYes, wipe, tSeq, tAsg, tIfS, tRet, tRetN, tDrop, tNext, tBreak, tCont, tNever, tAug, ipI, tPar, tPar3, gName, gCons, gNil, gSub, tVar, tC, tOp, tUn, tIf, tAndV, tOrV, tNotV, tAnd, tOr, tNot, L2.tB, tTest, tCmp, tChain, tCB, tCons, tNil, tCall, tCallS, tTup, tLst, tSl, tPart, tNoPart, rI, rI0, rU, rEq, rNe, scal_ii, scal_ss, scal_bb, scal_nn, scal_is, scal_si, rIxS, S_len, S_cps, S_inj, L2.start, List.map_cons, List.map_nil, List.cons_append, List.nil_append, List.append_nil, List.getElem?_cons_zero, List.getElem?_cons_succ, List.set_cons_zero, List.set_cons_succ, List.length_cons, List.length_nil, Nat.reduceAdd, Nat.reduceSub, List.replicate_succ, List.replicate_zero, Option.some.injEq, V.int.injEq, V.str.injEq, V.bl.injEq, V.ref.injEq, List.cons.injEq, and_true, true_and, exists_eq_left, exists_eq_left', exists_and_left, exists_eq, exists_eq', decide_eq_true_eq, Bool.not_eq_true', decide_eq_false_iff_not, Bool.false_eq_true, if_false, if_true, reduceIte, ite_self, CMul, CPow, CDiv])
      refine ⟨_, SqT.of et3, _, at_nat (i := 0) rfl, rfl, ite2 (fun h0 => ⟨_, SqT.of et3, _, at_nat (i := 3) rfl, _, rfl, ite2 (fun h1 => ⟨_, SqT.of et3, _, at_nat (i := 4) rfl, _, rfl, ite2 (fun h2 => ⟨_, SqT.of et3, _, at_nat (i := 2) rfl, _, e3, by rw [List.length_map]; exact sz5' (by omega), s3.mut hd, ?_⟩) (fun h2 => ?_)⟩) (fun h1 => ?_)⟩) (fun h0 => ?_)⟩
      · have h0 : F[i].left = true := side_inj (a := F[i].left) (b := true) h0
        have hc : covB true row F[i] = true := by
          unfold covB
          rw [h0, decide_eq_true h1, decide_eq_true h2]
          rfl
        rw [upd_same, hnext, List.filter_cons, if_pos hc, List.map_append (f := V.int)]
        rfl
      · exact skip (by unfold covB; rw [decide_eq_false h2, Bool.and_false, Bool.and_false])
      · exact skip (by unfold covB; rw [decide_eq_false h1, Bool.false_and, Bool.and_false])
      · have h0 : F[i].left = false := by
          cases hl : F[i].left with
          | false => rfl
          | true => exact absurd (by rw [hl]; rfl) h0
        exact skip (by unfold covB; rw [h0]; rfl)
    · obtain ⟨s3, e3⟩ := hP
      rw [hln, List.take_length] at e3
      generalize hL : (F.filter (covB true row)).map (·.r) = L at e3
      have hLl : L.length ≤ 1000 := by
        rw [← hL, List.length_map]
        exact Nat.le_trans (List.length_filter_le _ _) hn
      refine ⟨d, rfl, _, s3 _ _ upd_same, _, e3, ?_, fun p5 hp5 => ⟨p5, 0 :: L, rfl, SqL.of upd_same, by simp, fun m hm hmax => ?_⟩⟩
      · rw [List.length_map, List.length_singleton]
        exact sz5 (by omega)
      have hlow : m = lowOf F 0 row := low_max (by rw [hL]; exact hm) (by rw [hL]; exact hmax)
      subst hlow
      have s5 := (s1.trans s3).trans (Same.new (o := .lst ([V.int 0] ++ L.map V.int)) hp5)
      generalize upd H3 p5 (.lst ([V.int 0] ++ L.map V.int)) = H5 at *
      clear hmax hm hp5 e3 s3 hd hp
      refine ⟨by decide, fun p6 hp6 => ?_⟩
      have s6 := s5.trans (Same.new (o := .lst [.int width]) hp6)
      refine ⟨.ref a, rfl, a, rfl, ⟨_, SqL.of (s6 _ _ ha)⟩, fun d hd => lc_list (xs := xs) (fun i H3 => Same (upd H5 p6 (.lst [.int width])) H3 ∧ H3 d = some (.lst ((((F.take i).filter (covB false row)).map (·.l)).map V.int))) ⟨Same.new hd, upd_same⟩ (fun i H3 _ h => SqL.of (h.1 _ _ (s6 _ _ ha))) (fun i x H3 hx hP => ?_) (fun H3 hP => ?_)⟩
      · obtain ⟨s3, e3⟩ := hP
        have hi : i < F.length := by
          have := (List.getElem?_eq_some_iff.mp hx).1
          omega
        have hf : F[i]? = some F[i] := List.getElem?_eq_getElem hi
        obtain ⟨t, e, et⟩ := fl_at hX hf
        rw [hx] at e
        have e := Option.some.inj e
        subst e
        have et3 := s3 _ _ (s6 _ _ et)
        have hnext : ((F.take (i + 1)).filter (covB false row)).map (·.l) = ((F.take i).filter (covB false row)).map (·.l) ++ ([F[i]].filter (covB false row)).map (·.l) := by
          rw [take_snoc hf, List.filter_append, List.map_append]
        have hle : (((F.take i).filter (covB false row)).map (·.l)).length ≤ 1000 := by
          rw [List.length_map]
          refine Nat.le_trans (List.length_filter_le _ _) ?_
          rw [List.length_take]
          omega
        have skip : covB false row F[i] = false → Same (upd H5 p6 (.lst [.int width])) H3 ∧ H3 d = some (.lst ((((F.take (i + 1)).filter (covB false row)).map (·.l)).map V.int)) := fun hc => by
          rw [hnext, List.filter_cons, if_neg (by rw [hc]; exact Bool.false_ne_true), e3]
          exact ⟨s3, by simp⟩
        refine ⟨rfl, ?_⟩
        (try simp only [cx_K, cx_w, rIn, rMulS, CwR.tReplC, tM1, tBM0, rPop, rExtend, rReverse, rLenS, rEqE, rNeE, rSetL, rIntI, rIntB, tBM, rAppend, rIxL, rIxT, rCat, rSlL, rSlS, gTup, tYes, wipe, tSeq, tAsg, tIfS, tRet, tRetN, tDrop, tNext, tBreak, tCont, tNever, tAug, ipI, tPar, tPar3, gName, gCons, gNil, gSub, tVar, tC, tOp, tUn, tIf, tAndV, tOrV, tNotV, tAnd, tOr, tNot, L2.tB, tTest, tCmp, tChain, tCB, tCons, tNil, tCall, tCallS, tTup, tLst, tSl, tPart, tNoPart, rI, rI0, rU, rEq, rNe, scal_ii, scal_ss, scal_bb, scal_nn, scal_is, scal_si, rIxS, S_len, S_cps, S_inj, L2.start, List.map_cons, List.map_nil, List.cons_append, List.nil_append, List.append_nil, List.getElem?_cons_zero, List.getElem?_cons_succ, List.set_cons_zero, List.set_cons_succ, List.length_cons, List.length_nil, Nat.reduceAdd, Nat.reduceSub, List.replicate_succ, List.replicate_zero, Option.some.injEq, V.int.injEq, V.str.injEq, V.bl.injEq, V.ref.injEq, List.cons.injEq, and_true, true_and, exists_eq_left, exists_eq_left', exists_and_left, exists_eq, exists_eq', decide_eq_true_eq, Bool.not_eq_true', decide_eq_false_iff_not, Bool.false_eq_true, if_false, if_true, reduceIte, ite_self, CMul, CPow, CDiv])
        refine ⟨_, SqT.of et3, _, at_nat (i := 0) rfl, rfl, ite2 (fun h0 => ⟨_, SqT.of et3, _, at_nat (i := 3) rfl, _, rfl, ite2 (fun h1 => ⟨_, SqT.of et3, _, at_nat (i := 4) rfl, _, rfl, ite2 (fun h2 => ⟨_, SqT.of et3, _, at_nat (i := 1) rfl, _, e3, by rw [List.length_map]; exact sz5' (by omega), s3.mut hd, ?_⟩) (fun h2 => ?_)⟩) (fun h1 => ?_)⟩) (fun h0 => ?_)⟩
        · have h0 : F[i].left = false := side_inj (a := F[i].left) (b := false) h0
          have hc : covB false row F[i] = true := by
            unfold covB
            rw [h0, decide_eq_true h1, decide_eq_true h2]
            rfl
          rw [upd_same, hnext, List.filter_cons, if_pos hc, List.map_append (f := V.int)]
          rfl
        · exact skip (by unfold covB; rw [decide_eq_false h2, Bool.and_false, Bool.and_false])
        · exact skip (by unfold covB; rw [decide_eq_false h1, Bool.false_and, Bool.and_false])
        · have h0 : F[i].left = true := by
            cases hl : F[i].left with
            | true => rfl
            | false => exact absurd (by rw [hl]; rfl) h0
          exact skip (by unfold covB; rw [h0]; rfl)
      · obtain ⟨s3, e3⟩ := hP
        rw [hln, List.take_length] at e3
        generalize hL' : (F.filter (covB false row)).map (·.l) = L' at e3
        have hLl' : L'.length ≤ 1000 := by
          rw [← hL', List.length_map]
          exact Nat.le_trans (List.length_filter_le _ _) hn
        refine ⟨d, rfl, _, s3 _ _ upd_same, _, e3, ?_, fun p7 hp7 => ⟨p7, width :: L', rfl, SqL.of upd_same, by simp, fun m hm hmin => ?_⟩⟩
        · rw [List.length_map, List.length_singleton]
          exact sz5 (by omega)
        have hhigh : m = highOf F width row := high_min (by rw [hL']; exact hm) (by rw [hL']; exact hmin)
        subst hhigh
        have s7 := (s6.trans s3).trans (Same.new (o := .lst ([V.int width] ++ L'.map V.int)) hp7)
        exact ⟨by decide, fun t ht => q t _ (s7.trans (Same.new ht)) (s7.free ht) upd_same⟩
def spLStart : Sp := fun vs H Q _ => ∃ v F c, vs = [v, .int c] ∧ Rep H (flsD F) v ∧ F.length ≤ 1000 ∧ sortedT F = true ∧ ∀ H', Same H H' → Q (.int (startOf F c)) H'
theorem okLStart (T : Top K w mg) : Ok P w K mg base CX0 1 "_law_start" ["floats", "ceiling"] spLStart := by
  have m_max := T.m_max
  refine mkOk T.f__law_start scLawStart (fun vs H Q E h => ?_) (fun f cdv A outer s H vs Q E hr h => ?_)
  · obtain ⟨_, _, _, rfl, _⟩ := h
    rfl
  · obtain ⟨v, F, c, rfl, hF, hn, hs, q⟩ := h
    refine ⟨_, pss_one (ps_ret (pe_callB (cr_max rfl) (by rfl) m_max (by decide +kernel) (pa_cons (pe_op op_cat (pe_lst (pa_cons (pv 1) pa_nil)) (pe_lc (own := [("one", 2)]) rfl scLawStart.nd (pi_list (pv 0)) (blkOk_by (own := [("one", 2)]) (N := ["floats", "ceiling", "one"]) (sc := defScope sLawStart) (by decide +kernel)) (fun _ _ _ _ _ => pg_name (i := 2) scLawStart.nd rfl (Or.inl rfl)) (fun _ _ _ _ _ => pts_nil) (fun _ _ _ _ _ => pe_ix (ix_tupK (K := K) rfl) (pv 2) (pe_int) (fun _ _ => rfl)))) pa_nil))), ?_⟩
    (try simp only [cx_K, cx_w, rIn, rMulS, CwR.tReplC, tM1, tBM0, rPop, rExtend, rReverse, rLenS, rEqE, rNeE, rSetL, rIntI, rIntB, tBM, rAppend, rIxL, rIxT, rCat, rSlL, rSlS, gTup, tYes, wipe, tSeq, tAsg, tIfS, tRet, tRetN, tDrop, tNext, tBreak, tCont, tNever, tAug, ipI, tPar, tPar3, gName, gCons, gNil, gSub, tVar, tC, tOp, tUn, tIf, tAndV, tOrV, tNotV, tAnd, tOr, tNot, L2.tB, tTest, tCmp, tChain, tCB, tCons, tNil, tCall, tCallS, tTup, tLst, tSl, tPart, tNoPart, rI, rI0, rU, rEq, rNe, scal_ii, scal_ss, scal_bb, scal_nn, scal_is, scal_si, rIxS, S_len, S_cps, S_inj, L2.start, List.map_cons, List.map_nil, List.cons_append, List.nil_append, List.append_nil, List.getElem?_cons_zero, List.getElem?_cons_succ, List.set_cons_zero, List.set_cons_succ, List.length_cons, List.length_nil, Nat.reduceAdd, Nat.reduceSub, List.replicate_succ, List.replicate_zero, Option.some.injEq, V.int.injEq, V.str.injEq, V.bl.injEq, V.ref.injEq, List.cons.injEq, and_true, true_and, exists_eq_left, exists_eq_left', exists_and_left, exists_eq, exists_eq', decide_eq_true_eq, Bool.not_eq_true', decide_eq_false_iff_not, Bool.false_eq_true, if_false, if_true, reduceIte, ite_self, CMul, CPow, CDiv])
    obtain ⟨a, xs, rfl, ha, hX⟩ := hF
    have hln := hX.len2
    refine ⟨by decide, fun p hp => ?_⟩
    have s1 : Same H (upd H p (.lst [.int c])) := Same.new hp
    refine ⟨.ref a, rfl, a, rfl, ⟨_, SqL.of (s1 _ _ ha)⟩, fun d hd => lc_list (xs := xs) (fun i H3 => Same (upd H p (.lst [.int c])) H3 ∧ H3 d = some (.lst (((F.take i).map (·.t)).map V.int))) ⟨Same.new hd, upd_same⟩ (fun i H3 _ h => SqL.of (h.1 _ _ (s1 _ _ ha))) (fun i x H3 hx hP => ?_) (fun H3 hP => ?_)⟩
    · obtain ⟨s3, e3⟩ := hP
      have hi : i < F.length := by
        have := (List.getElem?_eq_some_iff.mp hx).1
        omega
      have hf : F[i]? = some F[i] := List.getElem?_eq_getElem hi
      obtain ⟨t, e, et⟩ := fl_at hX hf
      rw [hx] at e
      have e := Option.some.inj e
      subst e
      refine ⟨rfl, ?_⟩
      (try simp only [cx_K, cx_w, rIn, rMulS, CwR.tReplC, tM1, tBM0, rPop, rExtend, rReverse, rLenS, rEqE, rNeE, rSetL, rIntI, rIntB, tBM, rAppend, rIxL, rIxT, rCat, rSlL, rSlS, gTup, tYes, wipe, tSeq, tAsg, tIfS, tRet, tRetN, tDrop, tNext, tBreak, tCont, tNever, tAug, ipI, tPar, tPar3, gName, gCons, gNil, gSub, tVar, tC, tOp, tUn, tIf, tAndV, tOrV, tNotV, tAnd, tOr, tNot, L2.tB, tTest, tCmp, tChain, tCB, tCons, tNil, tCall, tCallS, tTup, tLst, tSl, tPart, tNoPart, rI, rI0, rU, rEq, rNe, scal_ii, scal_ss, scal_bb, scal_nn, scal_is, scal_si, rIxS, S_len, S_cps, S_inj, L2.start, List.map_cons, List.map_nil, List.cons_append, List.nil_append, List.append_nil, List.getElem?_cons_zero, List.getElem?_cons_succ, List.set_cons_zero, List.set_cons_succ, List.length_cons, List.length_nil, Nat.reduceAdd, Nat.reduceSub, List.replicate_succ, List.replicate_zero, Option.some.injEq, V.int.injEq, V.str.injEq, V.bl.injEq, V.ref.injEq, List.cons.injEq, and_true, true_and, exists_eq_left, exists_eq_left', exists_and_left, exists_eq, exists_eq', decide_eq_true_eq, Bool.not_eq_true', decide_eq_false_iff_not, Bool.false_eq_true, if_false, if_true, reduceIte, ite_self, CMul, CPow, CDiv])
      refine ⟨_, SqT.of (s3 _ _ (s1 _ _ et)), _, at_nat (i := 3) rfl, _, e3, ?_, s3.mut hd, ?_⟩
      · rw [List.length_map, List.length_map, List.length_take]
        exact sz5' (by omega)
      · rw [upd_same, take_snoc hf, List.map_append, List.map_append]
        rfl
    · obtain ⟨s3, e3⟩ := hP
      rw [hln, List.take_length] at e3
      have ep3 : H3 p = some (.lst [.int c]) := s3 _ _ upd_same
      refine ⟨d, rfl, _, ep3, _, e3, ?_, fun p5 hp5 => ⟨p5, c :: F.map (·.t), rfl, SqL.of upd_same, by simp, fun m hm hmax => ?_⟩⟩
      · rw [List.length_map, List.length_map, List.length_singleton]
        exact sz5 (by omega)
      have hst : m = startOf F c := by
        refine max_start hs ?_ (hmax c List.mem_cons_self) (fun f hf => hmax f.t (List.mem_cons_of_mem _ (List.mem_map.mpr ⟨f, hf, rfl⟩)))
        rcases List.mem_cons.mp hm with h | h
        · exact .inl h
        · obtain ⟨f, hf, e⟩ := List.mem_map.mp h
          exact .inr ⟨f, hf, e.symm⟩
      rw [hst]
      exact q _ ((s1.trans s3).trans (Same.new hp5))
end
end K92


namespace K92
open PySem PySem.Spec PyProof.Rows L2 KB
section
variable {P : Program} {w : World} {K : PySem.W.Frag} {mg : Str → Option Value} {base : Heap}
theorem own_appS {p t : Addr} {H H2 H7 : Hp} {ds es : List D} {xs ys : List V} {o : HO} (s2 : Same H H2) (s : Same H2 H7) (e2 : ∃ u, H2 p = some u) (ht : H7 t = none)
    (R : Reps (hide [p] (since H H2)) ds xs) (R2 : Reps (hide [p] (since H H7)) es ys) : Reps (hide [p] (since H (upd (upd H7 t (.tup ys)) p o))) (ds ++ [.tup es]) (xs ++ [.ref t]) := by
  obtain ⟨u, e2⟩ := e2
  have ntp : t ≠ p := fun z => by
    have := s p u e2
    rw [← z, ht] at this
    cases this
  have S := own_upd (p := p) (H := H) (o := o) (u := .tup ys) ht
  have S2 : Same (since H H2) (since H H7) := fun b x e => by
    obtain ⟨e1, e2⟩ := since_some.mp e
    exact since_some.mpr ⟨e1, s _ _ e2⟩
  refine (R.mono (S2.hide.trans S)).snoc ⟨t, ys, rfl, hide_some.mpr ⟨by simp [ntp], since_some.mpr ⟨(s2.trans s).free ht, ?_⟩⟩, R2.mono S⟩
  rw [upd_ne ntp, upd_same]
theorem bots_ex (F : List Fl) (st : Int) : ∃ ns, Bots F st ns := by
  refine ⟨((F.map (·.b)).filter fun b => decide (st < b)).mergeSort (fun a b => decide (a ≤ b)), List.mergeSort_perm _ _, ?_⟩
  have := List.pairwise_mergeSort (le := fun (a b : Int) => decide (a ≤ b)) (fun a b c h1 h2 => by simp at *; omega) (fun a b => by simp; omega) ((F.map (·.b)).filter fun b => decide (st < b))
  exact this.imp fun h => of_decide_eq_true h
def spLPlace : Sp := fun vs H Q _ => ∃ v F width c wide left, vs = [v, .int width, .int c, .int wide, .str (S (sideT left))] ∧ Rep H (flsD F) v ∧ F.length ≤ 1000 ∧ sortedT F = true ∧ (∀ f ∈ F, f.b ≤ f.t + 7) ∧ -1000 ≤ c ∧ startOf F c ≤ 2000 ∧
  ∀ r t H', IsRow F 0 width wide (startOf F c) r → Same H H' → H t = none → H' t = some (.tup [.int (atOf F 0 width wide left r), .int r]) → Q (.ref t) H'
theorem okLPlace (T : Top K w mg) : Ok P w K mg base CX0 2 "_law_place" ["floats", "width", "ceiling", "w", "side"] spLPlace := by
  have GLawStart : Ok P w K mg base CX0 1 "_law_start" ["floats", "ceiling"] spLStart := okLStart T
  have GLawBetween : Ok P w K mg base CX0 1 "_law_between" ["floats", "width", "row"] spLBetween := okLBetween T
  have m_range := T.m_range
  have m_int := T.m_int
  refine mkOk T.f__law_place scLawPlace (fun vs H Q E h => ?_) (fun f cdv A outer s H vs Q E hr h => ?_)
  · obtain ⟨_, _, _, _, _, _, rfl, _⟩ := h
    rfl
  · obtain ⟨v, F, width, c, wide, left, rfl, hF, hn, hs, hb7, hc0, hst, q⟩ := h
    refine ⟨_, pss_cons (ps_set (i := 5) scLawPlace.nd rfl (Or.inl rfl) (pcall GLawStart (hr.mono (by decide)) (by rfl) pass0 (pa_cons (pv 0) (pa_cons (pv 2) pa_nil))))
  (pss_cons (ps_for PassesOwn.never rfl (pi_range2 rfl m_range (pa_cons (pv 5) (pa_cons (pe_op op_add (pv 5) (pe_int)) pa_nil))) (pg_name (i := 6) scLawPlace.nd rfl (Or.inl rfl))
  (pss_cons (ps_asg (pcall GLawBetween (hr.mono (by decide)) (by rfl) pass0 (pa_cons (pv 0) (pa_cons (pv 1) (pa_cons (pv 6) pa_nil)))) (pg_tup (n := 2) rfl (pgs_cons (pg_name (i := 7) scLawPlace.nd rfl (Or.inl rfl)) (pgs_cons (pg_name (i := 8) scLawPlace.nd rfl (Or.inl rfl)) pgs_nil))))
  (pss_one (ps_if (PW.pt (pw_or (pt_cmpR op_ge (pe_op op_sub (pv 8) (pv 7)) (pv 3) (nomark _)) (pw_or1 (pt_cmpR (op_eqD hr.units) (pe_tup (pa_cons (pv 7) (pa_cons (pv 8) pa_nil))) (pe_tup (pa_cons (pe_int) (pa_cons (pv 1) pa_nil))) (nomark _)))))
  (pss_one (ps_ret (pe_tup (pa_cons (pe_ix ix_list (pe_lst (pa_cons (pv 7) (pa_cons (pe_op op_sub (pv 8) (pv 3)) pa_nil))) (pe_callTy call_intB (by rfl) m_int (by decide +kernel) (pa_cons (pe_cmpR op_eq (pv 4) (pe_str) (nomark _)) pa_nil)) (fun _ _ => rfl)) (pa_cons (pv 6) pa_nil)))))
  (pss_nil)))))
  (pss_one (ps_ret (pe_tup (pa_cons (pe_int) (pa_cons (pe_int) pa_nil)))))), ?_⟩
    (try simp only [cx_K, cx_w, rIn, rMulS, CwR.tReplC, tM1, tBM0, rPop, rExtend, rReverse, rLenS, rEqE, rNeE, rSetL, rIntI, rIntB, tBM, rAppend, rIxL, rIxT, rCat, rSlL, rSlS, gTup, tYes, wipe, tSeq, tAsg, tIfS, tRet, tRetN, tDrop, tNext, tBreak, tCont, tNever, tAug, ipI, tPar, tPar3, gName, gCons, gNil, gSub, tVar, tC, tOp, tUn, tIf, tAndV, tOrV, tNotV, tAnd, tOr, tNot, L2.tB, tTest, tCmp, tChain, tCB, tCons, tNil, tCall, tCallS, tTup, tLst, tSl, tPart, tNoPart, rI, rI0, rU, rEq, rNe, scal_ii, scal_ss, scal_bb, scal_nn, scal_is, scal_si, rIxS, S_len, S_cps, S_inj, L2.start, List.map_cons, List.map_nil, List.cons_append, List.nil_append, List.append_nil, List.getElem?_cons_zero, List.getElem?_cons_succ, List.set_cons_zero, List.set_cons_succ, List.length_cons, List.length_nil, Nat.reduceAdd, Nat.reduceSub, List.replicate_succ, List.replicate_zero, Option.some.injEq, V.int.injEq, V.str.injEq, V.bl.injEq, V.ref.injEq, List.cons.injEq, and_true, true_and, exists_eq_left, exists_eq_left', exists_and_left, exists_eq, exists_eq', decide_eq_true_eq, Bool.not_eq_true', decide_eq_false_iff_not, Bool.false_eq_true, if_false, if_true, reduceIte, ite_self, CMul, CPow, CDiv])
    refine ⟨v, F, c, rfl, hF, hn, hs, fun H1 s1 => ?_⟩
    obtain ⟨ns, hB⟩ := bots_ex F (startOf F c)
    have hR := row_is (lo := 0) (hi := width) (w := wide) (tops_start (c := c) hs) hB
    generalize firstOf F 0 width wide (startOf F c) (startOf F c :: ns) = r at hR
    have hr7 : r ≤ startOf F c + 7 := by
      rcases hR.bot with e | ⟨f, hf, e⟩
      · omega
      · have := hb7 f hf
        have := tops_start (c := c) hs f hf
        omega
    have hsc : c ≤ startOf F c := start_ge
    refine ⟨_, rfl, _, rfl, _, _, rfl, rfl, _, _, rfl, ⟨by omega, by omega, by omega, by omega⟩, for_range (lo := startOf F c) (n := (startOf F c + 600 - startOf F c).toNat) (fun i σ H2 => ∃ (e6 e7 e8 : Option V), σ = [some v, some (.int width), some (.int c), some (.int wide), some (.str (S (sideT left))), some (.int (startOf F c)), e6, e7, e8] ∧ Same H H2 ∧ ∀ x, startOf F c ≤ x → x < startOf F c + (i : Nat) → goesIn F 0 width x wide = false) ?_ ?_ ?_⟩
    · exact ⟨_, _, _, rfl, s1, fun x h1 h2 => by omega⟩
    · rintro i σ H2 hi ⟨e6, e7, e8, rfl, s2, hno⟩
      (try simp only [cx_K, cx_w, rIn, rMulS, CwR.tReplC, tM1, tBM0, rPop, rExtend, rReverse, rLenS, rEqE, rNeE, rSetL, rIntI, rIntB, tBM, rAppend, rIxL, rIxT, rCat, rSlL, rSlS, gTup, tYes, wipe, tSeq, tAsg, tIfS, tRet, tRetN, tDrop, tNext, tBreak, tCont, tNever, tAug, ipI, tPar, tPar3, gName, gCons, gNil, gSub, tVar, tC, tOp, tUn, tIf, tAndV, tOrV, tNotV, tAnd, tOr, tNot, L2.tB, tTest, tCmp, tChain, tCB, tCons, tNil, tCall, tCallS, tTup, tLst, tSl, tPart, tNoPart, rI, rI0, rU, rEq, rNe, scal_ii, scal_ss, scal_bb, scal_nn, scal_is, scal_si, rIxS, S_len, S_cps, S_inj, L2.start, List.map_cons, List.map_nil, List.cons_append, List.nil_append, List.append_nil, List.getElem?_cons_zero, List.getElem?_cons_succ, List.set_cons_zero, List.set_cons_succ, List.length_cons, List.length_nil, Nat.reduceAdd, Nat.reduceSub, List.replicate_succ, List.replicate_zero, Option.some.injEq, V.int.injEq, V.str.injEq, V.bl.injEq, V.ref.injEq, List.cons.injEq, and_true, true_and, exists_eq_left, exists_eq_left', exists_and_left, exists_eq, exists_eq', decide_eq_true_eq, Bool.not_eq_true', decide_eq_false_iff_not, Bool.false_eq_true, if_false, if_true, reduceIte, ite_self, CMul, CPow, CDiv])
      refine ⟨v, F, width, _, rfl, hF.mono s2, hn, fun t H3 s3 ht et => ?_⟩
      refine ⟨t, rfl, _, SqT.of et, rfl, _, _, rfl, _, _, rfl, rfl, ?_⟩
      have s23 := s2.trans s3
      have hit : goesIn F 0 width (startOf F c + (i : Int)) wide = true → startOf F c + (i : Int) = r := fun hg => by
        have h1 : ¬ startOf F c + (i : Int) < r := fun z => by
          have := hR.least _ (by omega) z
          rw [hg] at this
          cases this
        have h2 : ¬ r < startOf F c + (i : Int) := fun z => by
          have := hno r hR.ge z
          rw [hR.goes] at this
          cases this
        omega
      have hat : atI [V.int (lowOf F 0 (startOf F c + (i : Int))), V.int (highOf F width (startOf F c + (i : Int)) - wide)] (if S (sideT left) = Str.ofString "right" then 1 else 0) = some (.int (atOf F 0 width wide left (startOf F c + (i : Int)))) := by
        cases left with
        | true =>
          rw [if_neg (by decide +kernel)]
          rfl
        | false =>
          rw [if_pos (by decide +kernel)]
          rfl
      have fin : goesIn F 0 width (startOf F c + (i : Int)) wide = true → ∀ H4, Same H H4 → ∀ p p2, H4 p = none → upd H4 p (.lst [V.int (lowOf F 0 (startOf F c + (i : Int))), V.int (highOf F width (startOf F c + (i : Int)) - wide)]) p2 = none →
          Q (.ref p2) (upd (upd H4 p (.lst [V.int (lowOf F 0 (startOf F c + (i : Int))), V.int (highOf F width (startOf F c + (i : Int)) - wide)])) p2 (.tup [.int (atOf F 0 width wide left (startOf F c + (i : Int))), V.int (startOf F c + (i : Int))])) := fun hg H4 s4 p p2 hp hp2 => by
        have s6 := s4.trans (Same.new (o := .lst [V.int (lowOf F 0 (startOf F c + (i : Int))), V.int (highOf F width (startOf F c + (i : Int)) - wide)]) hp)
        refine q r p2 _ hR (s6.trans (Same.new hp2)) (s6.free hp2) ?_
        rw [upd_same, hit hg]
      refine ⟨_, rfl, _, rfl, ite2 (fun h1 => ⟨_, rfl, by decide, fun p hp => ⟨_, SqL.of upd_same, _, hat, by decide, fun p2 hp2 => fin ?_ H3 s23 p p2 hp hp2⟩⟩) (fun h1 => ⟨by decide, fun p hp => ⟨by decide, fun p2 hp2 => ?_⟩⟩)⟩
      · unfold goesIn
        rw [decide_eq_true h1]
        rfl
      have e1 : upd (upd H3 p (.tup [V.int (lowOf F 0 (startOf F c + (i : Int))), V.int (highOf F width (startOf F c + (i : Int)))])) p2 (.tup [V.int 0, V.int width]) p = some (.tup [V.int (lowOf F 0 (startOf F c + (i : Int))), V.int (highOf F width (startOf F c + (i : Int)))]) := (Same.new hp2) _ _ upd_same
      have s4 := (s23.trans (Same.new (o := .tup [V.int (lowOf F 0 (startOf F c + (i : Int))), V.int (highOf F width (startOf F c + (i : Int)))]) hp)).trans (Same.new (o := .tup [V.int 0, V.int width]) hp2)
      have hgo : goesIn F 0 width (startOf F c + (i : Int)) wide = (decide (lowOf F 0 (startOf F c + (i : Int)) = 0) && decide (highOf F width (startOf F c + (i : Int)) = width)) := by
        unfold goesIn
        rw [decide_eq_false h1, Bool.false_or]
      refine ⟨_, _, .tup (SqT.of e1) (.cons (.int _) (.cons (.int _) .nil)), .tup (SqT.of upd_same) (.cons (.int _) (.cons (.int _) .nil)), rfl, rfl, _, rfl, ?_⟩
      show if ((lowOf F 0 (startOf F c + (i : Int)) == 0) && ((highOf F width (startOf F c + (i : Int)) == width) && true)) = true then _ else _
      rw [Bool.and_true]
      refine ite2 (fun hg => ⟨_, rfl, by decide, fun p3 hp3 => ⟨_, SqL.of upd_same, _, hat, by decide, fun p4 hp4 => fin (by rw [hgo]; exact hg) _ s4 p3 p4 hp3 hp4⟩⟩) (fun hg => ⟨_, _, _, ⟨rfl, rfl, rfl⟩, s4, fun x h1 h2 => ?_⟩)
      by_cases hx : x < startOf F c + (i : Int)
      · exact hno x h1 hx
      · have : x = startOf F c + (i : Int) := by omega
        rw [this, hgo]
        exact Bool.eq_false_iff.mpr hg
    · rintro σ H2 ⟨e6, e7, e8, rfl, s2, hno⟩
      exfalso
      have := hno r hR.ge (by omega)
      rw [hR.goes] at this
      cases this
def spStretched : Sp := fun vs H Q _ => ∃ v F k m c, vs = [v, .int k, .int m, .int c] ∧ Rep H (flsD F) v ∧ F.length ≤ 1000 ∧ 0 < k ∧ k ≤ 1000000000 ∧ 0 < m ∧ m ≤ 1000000000 ∧ ∀ t H', Same H H' → H t = none → Rep (since H H') (flsD (F.map (strF k m c))) (.ref t) → Q (.ref t) H'
theorem okStretched (T : Top K w mg) : Ok P w K mg base CX0 1 "_law_stretched" ["floats", "columns", "rows", "moved"] spStretched := by
  refine mkOk T.f__law_stretched scLawStretched (fun vs H Q E h => ?_) (fun f cdv A outer s H vs Q E hr h => ?_)
  · obtain ⟨_, _, _, _, _, rfl, _⟩ := h
    rfl
  · obtain ⟨v, F, k, m, c, rfl, hF, hn, hk0, hk1, hm0, hm1, q⟩ := h
    refine ⟨_, pss_one (ps_ret (pe_lc (own := [("one", 4)]) rfl scLawStretched.nd (pi_list (pv 0)) (blkOk_by (own := [("one", 4)]) (N := ["floats", "columns", "rows", "moved", "one"]) (sc := defScope sLawStretched) (by decide +kernel)) (fun _ _ _ _ _ => pg_name (i := 4) scLawStretched.nd rfl (Or.inl rfl)) (fun _ _ _ _ _ => pts_nil) (fun _ _ _ _ _ => pe_tup (pa_cons (pe_ix (ix_tupK (K := K) rfl) (pv 4) (pe_int) (fun _ _ => rfl)) (pa_cons (pe_op op_mul (pv 1) (pe_ix (ix_tupK (K := K) rfl) (pv 4) (pe_int) (fun _ _ => rfl))) (pa_cons (pe_op op_mul (pv 1) (pe_ix (ix_tupK (K := K) rfl) (pv 4) (pe_int) (fun _ _ => rfl))) (pa_cons (pe_op op_add (pe_op op_mul (pv 2) (pe_ix (ix_tupK (K := K) rfl) (pv 4) (pe_int) (fun _ _ => rfl))) (pv 3)) (pa_cons (pe_op op_add (pe_op op_mul (pv 2) (pe_ix (ix_tupK (K := K) rfl) (pv 4) (pe_int) (fun _ _ => rfl))) (pv 3)) pa_nil)))))))), ?_⟩
    (try simp only [cx_K, cx_w, rIn, rMulS, CwR.tReplC, tM1, tBM0, rPop, rExtend, rReverse, rLenS, rEqE, rNeE, rSetL, rIntI, rIntB, tBM, rAppend, rIxL, rIxT, rCat, rSlL, rSlS, gTup, tYes, wipe, tSeq, tAsg, tIfS, tRet, tRetN, tDrop, tNext, tBreak, tCont, tNever, tAug, ipI, tPar, tPar3, gName, gCons, gNil, gSub, tVar, tC, tOp, tUn, tIf, tAndV, tOrV, tNotV, tAnd, tOr, tNot, L2.tB, tTest, tCmp, tChain, tCB, tCons, tNil, tCall, tCallS, tTup, tLst, tSl, tPart, tNoPart, rI, rI0, rU, rEq, rNe, scal_ii, scal_ss, scal_bb, scal_nn, scal_is, scal_si, rIxS, S_len, S_cps, S_inj, L2.start, List.map_cons, List.map_nil, List.cons_append, List.nil_append, List.append_nil, List.getElem?_cons_zero, List.getElem?_cons_succ, List.set_cons_zero, List.set_cons_succ, List.length_cons, List.length_nil, Nat.reduceAdd, Nat.reduceSub, List.replicate_succ, List.replicate_zero, Option.some.injEq, V.int.injEq, V.str.injEq, V.bl.injEq, V.ref.injEq, List.cons.injEq, and_true, true_and, exists_eq_left, exists_eq_left', exists_and_left, exists_eq, exists_eq', decide_eq_true_eq, Bool.not_eq_true', decide_eq_false_iff_not, Bool.false_eq_true, if_false, if_true, reduceIte, ite_self, CMul, CPow, CDiv])
    obtain ⟨a, xs, rfl, ha, hX⟩ := hF
    have hln := hX.len2
    refine ⟨.ref a, rfl, a, rfl, ⟨_, SqL.of ha⟩, fun D hD => lc_list (xs := xs) (fun i H3 => Same H H3 ∧ ∃ zs, H3 D = some (.lst zs) ∧ Reps (hide [D] (since H H3)) (((F.take i).map (strF k m c)).map flD) zs) ⟨Same.new hD, [], upd_same, rfl⟩ (fun i H3 _ h => SqL.of (h.1 _ _ ha)) (fun i x H3 hx hP => ?_) (fun H3 hP => ?_)⟩
    · obtain ⟨s3, zs, e3, hR⟩ := hP
      have hi : i < F.length := by
        have := (List.getElem?_eq_some_iff.mp hx).1
        omega
      have hf : F[i]? = some F[i] := List.getElem?_eq_getElem hi
      obtain ⟨t, e, et⟩ := fl_at hX hf
      rw [hx] at e
      have e := Option.some.inj e
      subst e
      have et3 := s3 _ _ et
      have hzl := hR.length
      rw [List.length_map, List.length_map, List.length_take] at hzl
      refine ⟨rfl, ?_⟩
      (try simp only [cx_K, cx_w, rIn, rMulS, CwR.tReplC, tM1, tBM0, rPop, rExtend, rReverse, rLenS, rEqE, rNeE, rSetL, rIntI, rIntB, tBM, rAppend, rIxL, rIxT, rCat, rSlL, rSlS, gTup, tYes, wipe, tSeq, tAsg, tIfS, tRet, tRetN, tDrop, tNext, tBreak, tCont, tNever, tAug, ipI, tPar, tPar3, gName, gCons, gNil, gSub, tVar, tC, tOp, tUn, tIf, tAndV, tOrV, tNotV, tAnd, tOr, tNot, L2.tB, tTest, tCmp, tChain, tCB, tCons, tNil, tCall, tCallS, tTup, tLst, tSl, tPart, tNoPart, rI, rI0, rU, rEq, rNe, scal_ii, scal_ss, scal_bb, scal_nn, scal_is, scal_si, rIxS, S_len, S_cps, S_inj, L2.start, List.map_cons, List.map_nil, List.cons_append, List.nil_append, List.append_nil, List.getElem?_cons_zero, List.getElem?_cons_succ, List.set_cons_zero, List.set_cons_succ, List.length_cons, List.length_nil, Nat.reduceAdd, Nat.reduceSub, List.replicate_succ, List.replicate_zero, Option.some.injEq, V.int.injEq, V.str.injEq, V.bl.injEq, V.ref.injEq, List.cons.injEq, and_true, true_and, exists_eq_left, exists_eq_left', exists_and_left, exists_eq, exists_eq', decide_eq_true_eq, Bool.not_eq_true', decide_eq_false_iff_not, Bool.false_eq_true, if_false, if_true, reduceIte, ite_self, CMul, CPow, CDiv])
      refine ⟨_, SqT.of et3, _, at_nat (i := 0) rfl, _, SqT.of et3, _, at_nat (i := 1) rfl, _, rfl, .inl ⟨by omega, by omega⟩, _, SqT.of et3, _, at_nat (i := 2) rfl, _, rfl, .inl ⟨by omega, by omega⟩, _, SqT.of et3, _, at_nat (i := 3) rfl, _, rfl, .inl ⟨by omega, by omega⟩, _, SqT.of et3, _, at_nat (i := 4) rfl, _, rfl, .inl ⟨by omega, by omega⟩, by decide, fun t2 ht2 => ⟨zs, (Same.new ht2) _ _ e3, sz5' (by omega), (s3.trans (Same.new ht2)).mut hD, _, upd_same, ?_⟩⟩
      rw [take_snoc hf, List.map_append, List.map_append]
      exact own_appS s3 (Same.refl _) ⟨_, e3⟩ ht2 hR ⟨_, _, rfl, rfl, _, _, rfl, rfl, _, _, rfl, rfl, _, _, rfl, rfl, _, _, rfl, rfl, rfl⟩
    · obtain ⟨s3, zs, e3, hR⟩ := hP
      rw [hln, List.take_length] at hR
      exact q D H3 s3 hD ⟨D, zs, rfl, since_some.mpr ⟨hD, e3⟩, hR.mono hide_sub⟩
def spLeft : Sp := fun vs H Q _ => ∃ v F width i j, vs = [v, .int width, noV i, noV j] ∧ Rep H (flsD F) v ∧ (∀ k, i = some k → k < F.length) ∧ (∀ k, j = some k → k < F.length) ∧ Q (.int (highN F width j - lowN F i)) H
theorem okLeft (T : Top K w mg) : Ok P w K mg base CX0 1 "_law_left_over" ["floats", "width", "i", "j"] spLeft := by
  refine mkOk T.f__law_left_over scLawLeftOver (fun vs H Q E h => ?_) (fun f cdv A outer s H vs Q E hr h => ?_)
  · obtain ⟨_, _, _, _, _, rfl, _⟩ := h
    rfl
  · obtain ⟨v, F, width, i, j, rfl, hF, hi, hj, q⟩ := h
    refine ⟨_, pss_cons (ps_par (i := 4) (j := 5) rfl scLawLeftOver.nd rfl rfl (by decide) rfl rfl (pa_cons (pe_int) (pa_cons (pv 1) pa_nil)) (by rfl))
  (pss_cons (ps_if (pt_cmpR op_notN (pv 2) (pe_non) (nomark _))
  (pss_one (ps_set (i := 4) scLawLeftOver.nd rfl (Or.inl rfl) (pe_ix ix_tup (pe_ix ix_list (pv 0) (pv 2) (fun _ _ => rfl)) (pe_int) (fun _ _ => rfl))))
  (pss_nil))
  (pss_cons (ps_if (pt_cmpR op_notN (pv 3) (pe_non) (nomark _))
  (pss_one (ps_set (i := 5) scLawLeftOver.nd rfl (Or.inl rfl) (pe_ix ix_tup (pe_ix ix_list (pv 0) (pv 3) (fun _ _ => rfl)) (pe_int) (fun _ _ => rfl))))
  (pss_nil))
  (pss_one (ps_ret (pe_op op_sub (pv 5) (pv 4)))))), ?_⟩
    (try simp only [cx_K, cx_w, rIn, rMulS, CwR.tReplC, tM1, tBM0, rPop, rExtend, rReverse, rLenS, rEqE, rNeE, rSetL, rIntI, rIntB, tBM, rAppend, rIxL, rIxT, rCat, rSlL, rSlS, gTup, tYes, wipe, tSeq, tAsg, tIfS, tRet, tRetN, tDrop, tNext, tBreak, tCont, tNever, tAug, ipI, tPar, tPar3, gName, gCons, gNil, gSub, tVar, tC, tOp, tUn, tIf, tAndV, tOrV, tNotV, tAnd, tOr, tNot, L2.tB, tTest, tCmp, tChain, tCB, tCons, tNil, tCall, tCallS, tTup, tLst, tSl, tPart, tNoPart, rI, rI0, rU, rEq, rNe, scal_ii, scal_ss, scal_bb, scal_nn, scal_is, scal_si, rIxS, S_len, S_cps, S_inj, L2.start, List.map_cons, List.map_nil, List.cons_append, List.nil_append, List.append_nil, List.getElem?_cons_zero, List.getElem?_cons_succ, List.set_cons_zero, List.set_cons_succ, List.length_cons, List.length_nil, Nat.reduceAdd, Nat.reduceSub, List.replicate_succ, List.replicate_zero, Option.some.injEq, V.int.injEq, V.str.injEq, V.bl.injEq, V.ref.injEq, List.cons.injEq, and_true, true_and, exists_eq_left, exists_eq_left', exists_and_left, exists_eq, exists_eq', decide_eq_true_eq, Bool.not_eq_true', decide_eq_false_iff_not, Bool.false_eq_true, if_false, if_true, reduceIte, ite_self, CMul, CPow, CDiv])
    obtain ⟨a, xs, rfl, ha, hX⟩ := hF
    cases i with
    | none =>
      refine ⟨_, _, ⟨rfl, rfl⟩, ifF (fun z => z rfl) ?_⟩
      cases j with
      | none => exact ifF (fun z => z rfl) ⟨_, rfl, _, rfl, q⟩
      | some k =>
        have hkl := hj k rfl
        have hf : F[k]? = some F[k] := List.getElem?_eq_getElem hkl
        obtain ⟨t, e, et⟩ := fl_at hX hf
        have hh : highN F width (some k) = F[k].l := by simp only [highN, hf]
        rw [hh] at q
        exact ifT (fun z => nomatch z) ⟨a, rfl, xs, (k : Int), rfl, SqL.of ha, _, at_nat e, t, rfl, _, SqT.of et, _, at_nat (i := 1) rfl, _, rfl, _, rfl, q⟩
    | some k =>
      have hkl := hi k rfl
      have hf : F[k]? = some F[k] := List.getElem?_eq_getElem hkl
      obtain ⟨t, e, et⟩ := fl_at hX hf
      have hh : lowN F (some k) = F[k].r := by simp only [lowN, hf]
      rw [hh] at q
      refine ⟨_, _, ⟨rfl, rfl⟩, ifT (fun z => nomatch z) ⟨a, rfl, xs, (k : Int), rfl, SqL.of ha, _, at_nat e, t, rfl, _, SqT.of et, _, at_nat (i := 2) rfl, ?_⟩⟩
      cases j with
      | none => exact ifF (fun z => z rfl) ⟨_, rfl, _, rfl, q⟩
      | some k' =>
        have hkl' := hj k' rfl
        have hf' : F[k']? = some F[k'] := List.getElem?_eq_getElem hkl'
        obtain ⟨t', e', et'⟩ := fl_at hX hf'
        have hh' : highN F width (some k') = F[k'].l := by simp only [highN, hf']
        rw [hh'] at q
        exact ifT (fun z => nomatch z) ⟨a, rfl, xs, (k' : Int), rfl, SqL.of ha, _, at_nat e', t', rfl, _, SqT.of et', _, at_nat (i := 1) rfl, _, rfl, _, rfl, q⟩
end
end K92


namespace K92
open PySem PySem.Spec PyProof.Rows L2 KB
section
variable {P : Program} {w : World} {K : PySem.W.Frag} {mg : Str → Option Value} {base : Heap}
/-- None, and the numbers of a side that cover a row and leave less room in it -/
structure NumsIs (F : List Fl) (width : Int) (side : Bool) (row : Int) (n : Nat) (os : List (Option Nat)) : Prop where
  non : none ∈ os
  num : ∀ k, some k ∈ os → isNum' F width side row k
  all : ∀ k, k < n → isNum' F width side row k → some k ∈ os
  len : os.length ≤ n + 1
theorem takes_at {f : Fl} {width : Int} {side : Bool} (h : f.left = side) : atI [V.bl (decide (0 < f.r)), V.bl (decide (f.l < width))] (if S (sideT side) = Str.ofString "right" then 1 else 0) = some (.bl (takes f width)) := by
  unfold takes
  rw [h]
  cases side with
  | true =>
    rw [if_neg (by decide +kernel)]
    rfl
  | false =>
    rw [if_pos (by decide +kernel)]
    rfl
def spNums : Sp := fun vs H Q _ => ∃ v F width side row, vs = [v, .int width, .str (S (sideT side)), .int row] ∧ Rep H (flsD F) v ∧ F.length ≤ 1000 ∧ ∀ (os : List (Option Nat)) (t : Addr) (H' : Hp), NumsIs F width side row F.length os → Same H H' → H t = none → H' t = some (.lst (os.map noV)) → Q (.ref t) H'
theorem okNums (T : Top K w mg) : Ok P w K mg base CX0 1 "_law_numbers" ["floats", "width", "side", "row"] spNums := by
  have m_range := T.m_range
  have m_int := T.m_int
  have m_len := T.m_len
  refine mkOk T.f__law_numbers scLawNumbers (fun vs H Q E h => ?_) (fun f cdv A outer s H vs Q E hr h => ?_)
  · obtain ⟨_, _, _, _, _, rfl, _⟩ := h
    rfl
  · obtain ⟨v, F, width, side, row, rfl, hF, hn, q⟩ := h
    refine ⟨_, pss_cons (ps_set (i := 4) scLawNumbers.nd rfl (Or.inl rfl) (pe_lst (pa_cons (pe_non) pa_nil)))
  (pss_cons (ps_for PassesOwn.never rfl (pi_range1 rfl m_range (pa_cons (pe_callB (call_len_seqK (K := K) rfl) (by rfl) m_len PySem.boot_len (pa_cons (pv 0) pa_nil)) pa_nil)) (pg_name (i := 5) scLawNumbers.nd rfl (Or.inl rfl))
  (pss_cons (ps_set (i := 6) scLawNumbers.nd rfl (Or.inl rfl) (pe_ix ix_list (pv 0) (pv 5) (fun _ _ => rfl)))
  (pss_one (ps_if (PW.pt (pw_and (pt_cmpR op_eq (pe_ix ix_tup (pv 6) (pe_int) (fun _ _ => rfl)) (pv 2) (nomark _)) (pw_and (pt_chain op_le op_lt (pe_ix ix_tup (pv 6) (pe_int) (fun _ _ => rfl)) (pv 3) (pe_ix ix_tup (pv 6) (pe_int) (fun _ _ => rfl))) (pw_and1 (pt_val (pe_ix ix_list (pe_lst (pa_cons (pe_cmpR op_gt (pe_ix ix_tup (pv 6) (pe_int) (fun _ _ => rfl)) (pe_int) (nomark _)) (pa_cons (pe_cmpR op_lt (pe_ix ix_tup (pv 6) (pe_int) (fun _ _ => rfl)) (pv 1) (nomark _)) pa_nil))) (pe_callTy call_intB (by rfl) m_int (by decide +kernel) (pa_cons (pe_cmpR op_eq (pv 2) (pe_str) (nomark _)) pa_nil)) (fun _ _ => rfl)))))))
  (pss_one (ps_expr (pe_bm PySem.F.plainAttrs_list PySem.F.slot_list_append PySem.F.type_list_append mt_append (pv 4) (pa_cons (pv 5) pa_nil))))
  (pss_nil)))))
  (pss_one (ps_ret (pv 4)))), ?_⟩
    (try simp only [cx_K, cx_w, rIn, rMulS, CwR.tReplC, tM1, tBM0, rPop, rExtend, rReverse, rLenS, rEqE, rNeE, rSetL, rIntI, rIntB, tBM, rAppend, rIxL, rIxT, rCat, rSlL, rSlS, gTup, tYes, wipe, tSeq, tAsg, tIfS, tRet, tRetN, tDrop, tNext, tBreak, tCont, tNever, tAug, ipI, tPar, tPar3, gName, gCons, gNil, gSub, tVar, tC, tOp, tUn, tIf, tAndV, tOrV, tNotV, tAnd, tOr, tNot, L2.tB, tTest, tCmp, tChain, tCB, tCons, tNil, tCall, tCallS, tTup, tLst, tSl, tPart, tNoPart, rI, rI0, rU, rEq, rNe, scal_ii, scal_ss, scal_bb, scal_nn, scal_is, scal_si, rIxS, S_len, S_cps, S_inj, L2.start, List.map_cons, List.map_nil, List.cons_append, List.nil_append, List.append_nil, List.getElem?_cons_zero, List.getElem?_cons_succ, List.set_cons_zero, List.set_cons_succ, List.length_cons, List.length_nil, Nat.reduceAdd, Nat.reduceSub, List.replicate_succ, List.replicate_zero, Option.some.injEq, V.int.injEq, V.str.injEq, V.bl.injEq, V.ref.injEq, List.cons.injEq, and_true, true_and, exists_eq_left, exists_eq_left', exists_and_left, exists_eq, exists_eq', decide_eq_true_eq, Bool.not_eq_true', decide_eq_false_iff_not, Bool.false_eq_true, if_false, if_true, reduceIte, ite_self, CMul, CPow, CDiv])
    obtain ⟨a, xs, rfl, ha, hX⟩ := hF
    have hln := hX.len2
    refine ⟨by decide, fun p hp => ?_⟩
    have s1 : Same H (upd H p (.lst [.non])) := Same.new hp
    refine ⟨_, rfl, a, _, rfl, .inl (SqL.of (s1 _ _ ha)), _, rfl, by omega, by omega, for_range (lo := 0) (n := ((xs.length : Nat) : Int).toNat) (fun i σ H2 => ∃ (os : List (Option Nat)) (e5 e6 : Option V), σ = [some (.ref a), some (.int width), some (.str (S (sideT side))), some (.int row), some (.ref p), e5, e6] ∧ Same H H2 ∧ H2 p = some (.lst (os.map noV)) ∧ NumsIs F width side row i os) ?_ ?_ ?_⟩
    · exact ⟨[none], _, _, rfl, s1, upd_same, ⟨by simp, fun k h => by simp at h, fun k h => absurd h (Nat.not_lt_zero k), by simp⟩⟩
    · rintro i σ H2 hi ⟨os, e5, e6, rfl, s2, ep, hN⟩
      (try simp only [cx_K, cx_w, rIn, rMulS, CwR.tReplC, tM1, tBM0, rPop, rExtend, rReverse, rLenS, rEqE, rNeE, rSetL, rIntI, rIntB, tBM, rAppend, rIxL, rIxT, rCat, rSlL, rSlS, gTup, tYes, wipe, tSeq, tAsg, tIfS, tRet, tRetN, tDrop, tNext, tBreak, tCont, tNever, tAug, ipI, tPar, tPar3, gName, gCons, gNil, gSub, tVar, tC, tOp, tUn, tIf, tAndV, tOrV, tNotV, tAnd, tOr, tNot, L2.tB, tTest, tCmp, tChain, tCB, tCons, tNil, tCall, tCallS, tTup, tLst, tSl, tPart, tNoPart, rI, rI0, rU, rEq, rNe, scal_ii, scal_ss, scal_bb, scal_nn, scal_is, scal_si, rIxS, S_len, S_cps, S_inj, L2.start, List.map_cons, List.map_nil, List.cons_append, List.nil_append, List.append_nil, List.getElem?_cons_zero, List.getElem?_cons_succ, List.set_cons_zero, List.set_cons_succ, List.length_cons, List.length_nil, Nat.reduceAdd, Nat.reduceSub, List.replicate_succ, List.replicate_zero, Option.some.injEq, V.int.injEq, V.str.injEq, V.bl.injEq, V.ref.injEq, List.cons.injEq, and_true, true_and, exists_eq_left, exists_eq_left', exists_and_left, exists_eq, exists_eq', decide_eq_true_eq, Bool.not_eq_true', decide_eq_false_iff_not, Bool.false_eq_true, if_false, if_true, reduceIte, ite_self, CMul, CPow, CDiv])
      have hi' : i < F.length := by omega
      have hf : F[i]? = some F[i] := List.getElem?_eq_getElem hi'
      obtain ⟨t, e, et⟩ := fl_at hX hf
      have et2 := s2 _ _ et
      have ei : (0 : Int) + (i : Int) = ((i : Nat) : Int) := by omega
      have eix : atI xs (0 + (i : Int)) = some (.ref t) := by
        rw [ei]
        exact at_nat e
      have skip : ¬ isNum' F width side row i → NumsIs F width side row (i + 1) os := fun hno => by
        refine ⟨hN.non, hN.num, fun k hk h => ?_, by have := hN.len; omega⟩
        by_cases hki : k < i
        · exact hN.all k hki h
        · have : k = i := by omega
          rw [this] at h
          exact absurd h hno
      have no : (F[i].left = side → F[i].t ≤ row → row < F[i].b → takes F[i] width = false) → NumsIs F width side row (i + 1) os := fun h => skip (by
        rintro ⟨f, hf', h1, h2, h3⟩
        rw [hf] at hf'
        have := Option.some.inj hf'
        subst this
        rw [h h1 h2.1 h2.2] at h3
        cases h3)
      refine ⟨_, SqL.of (s2 _ _ ha), _, eix, t, rfl, _, SqT.of et2, _, at_nat (i := 0) rfl, rfl, ite2 (fun h0 => ⟨t, rfl, _, SqT.of et2, _, at_nat (i := 3) rfl, _, rfl, ite2 (fun h1 => ⟨t, rfl, _, SqT.of et2, _, at_nat (i := 4) rfl, _, rfl, ite2 (fun h2 => ⟨t, rfl, _, SqT.of et2, _, at_nat (i := 2) rfl, ?_⟩) (fun h2 => ?_)⟩) (fun h1 => ?_)⟩) (fun h0 => ?_)⟩
      · have h0 : F[i].left = side := side_inj h0
        refine ⟨_, rfl, t, rfl, _, SqT.of et2, _, at_nat (i := 1) rfl, _, rfl, by decide, fun p2 hp2 => ?_⟩
        have s3 : Same H2 (upd H2 p2 (.lst [.bl (decide (0 < F[i].r)), .bl (decide (F[i].l < width))])) := Same.new hp2
        refine ⟨_, SqL.of upd_same, _, takes_at h0, _, rfl, ite2 (fun ht => ⟨.inl ⟨rfl, _, SqL.of (s3 _ _ ep)⟩, _, s3 _ _ ep, ?_, os ++ [some i], _, _, ⟨rfl, rfl⟩, (s2.trans s3).mut hp, ?_, ?_⟩) (fun ht => ⟨os, _, _, ⟨rfl, rfl⟩, s2.trans s3, s3 _ _ ep, no fun _ _ _ => Bool.eq_false_iff.mpr ht⟩)⟩
        · rw [List.length_map]
          have := hN.len
          exact sz5' (by omega)
        · rw [upd_same, ei, List.map_append]
          rfl
        · refine ⟨List.mem_append_left _ hN.non, fun k hk => ?_, fun k hk h => ?_, by rw [List.length_append]; have := hN.len; simp; omega⟩
          · rcases List.mem_append.mp hk with h | h
            · exact hN.num k h
            · have : k = i := by simpa using h
              rw [this]
              exact ⟨F[i], hf, h0, ⟨h1, h2⟩, ht⟩
          · by_cases hki : k < i
            · exact List.mem_append_left _ (hN.all k hki h)
            · have : k = i := by omega
              rw [this]
              simp
      · exact ⟨os, _, _, ⟨rfl, rfl⟩, s2, ep, no fun _ _ z => absurd z h2⟩
      · exact ⟨os, _, _, ⟨rfl, rfl⟩, s2, ep, no fun _ z => absurd z h1⟩
      · exact ⟨os, _, _, ⟨rfl, rfl⟩, s2, ep, no fun z => absurd (by rw [z]) h0⟩
    · rintro σ H2 ⟨os, e5, e6, rfl, s2, ep, hN⟩
      (try simp only [cx_K, cx_w, rIn, rMulS, CwR.tReplC, tM1, tBM0, rPop, rExtend, rReverse, rLenS, rEqE, rNeE, rSetL, rIntI, rIntB, tBM, rAppend, rIxL, rIxT, rCat, rSlL, rSlS, gTup, tYes, wipe, tSeq, tAsg, tIfS, tRet, tRetN, tDrop, tNext, tBreak, tCont, tNever, tAug, ipI, tPar, tPar3, gName, gCons, gNil, gSub, tVar, tC, tOp, tUn, tIf, tAndV, tOrV, tNotV, tAnd, tOr, tNot, L2.tB, tTest, tCmp, tChain, tCB, tCons, tNil, tCall, tCallS, tTup, tLst, tSl, tPart, tNoPart, rI, rI0, rU, rEq, rNe, scal_ii, scal_ss, scal_bb, scal_nn, scal_is, scal_si, rIxS, S_len, S_cps, S_inj, L2.start, List.map_cons, List.map_nil, List.cons_append, List.nil_append, List.append_nil, List.getElem?_cons_zero, List.getElem?_cons_succ, List.set_cons_zero, List.set_cons_succ, List.length_cons, List.length_nil, Nat.reduceAdd, Nat.reduceSub, List.replicate_succ, List.replicate_zero, Option.some.injEq, V.int.injEq, V.str.injEq, V.bl.injEq, V.ref.injEq, List.cons.injEq, and_true, true_and, exists_eq_left, exists_eq_left', exists_and_left, exists_eq, exists_eq', decide_eq_true_eq, Bool.not_eq_true', decide_eq_false_iff_not, Bool.false_eq_true, if_false, if_true, reduceIte, ite_self, CMul, CPow, CDiv])
      refine q os p H2 ?_ s2 hp ep
      have : ((xs.length : Nat) : Int).toNat = F.length := by omega
      rwa [this] at hN
def spLWitness : Sp := fun vs H Q _ => ∃ v F width x d side top stop, vs = [v, .int width, x, .str (S (sideT side)), .int top, .int stop] ∧ Rep H (flsD F) v ∧ F.length ≤ 1000 ∧ Rep H d x ∧ ∀ H', Same H H' → Q (.bl (witD F width side top stop d)) H'
theorem okLWitness (T : Top K w mg) : Ok P w K mg base CX0 2 "_law_witness" ["floats", "width", "value", "side", "row", "end"] spLWitness := by
  have GLawWhole : Ok P w K mg base CX0 1 "_law_whole" ["value"] spWhole := okLawWhole T
  have m_len := T.m_len
  have m_int := T.m_int
  refine mkOk T.f__law_witness scLawWitness (fun vs H Q E h => ?_) (fun f cdv A outer s H vs Q E hr h => ?_)
  · obtain ⟨_, _, _, _, _, _, _, _, rfl, _⟩ := h
    rfl
  · obtain ⟨v, F, width, x, d, side, top, stop, rfl, hF, hn, hd, q⟩ := h
    refine ⟨_, pss_cons (ps_if (pt_cmpR op_isN (pv 2) (pe_non) (nomark _))
  (pss_one (ps_ret (pe_bl)))
  (pss_nil))
  (pss_cons (ps_if (PW.pt (pw_or (pt_not (pt_val (pcall GLawWhole (hr.mono (by decide)) (by rfl) pass0 (pa_cons (pv 2) pa_nil)))) (pw_or1 (pt_not (pt_chain op_le op_lt (pe_int) (pv 2) (pe_callB (call_len_seqK (K := K) rfl) (by rfl) m_len PySem.boot_len (pa_cons (pv 0) pa_nil)))))))
  (pss_one (ps_ret (pe_bl)))
  (pss_nil))
  (pss_cons (ps_set (i := 6) scLawWitness.nd rfl (Or.inl rfl) (pe_ix ix_list (pv 0) (pv 2) (fun _ _ => rfl)))
  (pss_cons (ps_if (PW.pt (pw_or (pt_cmpR op_ne (pe_ix ix_tup (pv 6) (pe_int) (fun _ _ => rfl)) (pv 3) (nomark _)) (pw_or (pt_cmpR op_gt (pe_ix ix_tup (pv 6) (pe_int) (fun _ _ => rfl)) (pv 4) (nomark _)) (pw_or1 (pt_cmpR op_lt (pe_ix ix_tup (pv 6) (pe_int) (fun _ _ => rfl)) (pv 5) (nomark _))))))
  (pss_one (ps_ret (pe_bl)))
  (pss_nil))
  (pss_one (ps_ret (pe_ix ix_list (pe_lst (pa_cons (pe_cmpR op_gt (pe_ix ix_tup (pv 6) (pe_int) (fun _ _ => rfl)) (pe_int) (nomark _)) (pa_cons (pe_cmpR op_lt (pe_ix ix_tup (pv 6) (pe_int) (fun _ _ => rfl)) (pv 1) (nomark _)) pa_nil))) (pe_callTy call_intB (by rfl) m_int (by decide +kernel) (pa_cons (pe_cmpR op_eq (pv 3) (pe_str) (nomark _)) pa_nil)) (fun _ _ => rfl))))))), ?_⟩
    (try simp only [cx_K, cx_w, rIn, rMulS, CwR.tReplC, tM1, tBM0, rPop, rExtend, rReverse, rLenS, rEqE, rNeE, rSetL, rIntI, rIntB, tBM, rAppend, rIxL, rIxT, rCat, rSlL, rSlS, gTup, tYes, wipe, tSeq, tAsg, tIfS, tRet, tRetN, tDrop, tNext, tBreak, tCont, tNever, tAug, ipI, tPar, tPar3, gName, gCons, gNil, gSub, tVar, tC, tOp, tUn, tIf, tAndV, tOrV, tNotV, tAnd, tOr, tNot, L2.tB, tTest, tCmp, tChain, tCB, tCons, tNil, tCall, tCallS, tTup, tLst, tSl, tPart, tNoPart, rI, rI0, rU, rEq, rNe, scal_ii, scal_ss, scal_bb, scal_nn, scal_is, scal_si, rIxS, S_len, S_cps, S_inj, L2.start, List.map_cons, List.map_nil, List.cons_append, List.nil_append, List.append_nil, List.getElem?_cons_zero, List.getElem?_cons_succ, List.set_cons_zero, List.set_cons_succ, List.length_cons, List.length_nil, Nat.reduceAdd, Nat.reduceSub, List.replicate_succ, List.replicate_zero, Option.some.injEq, V.int.injEq, V.str.injEq, V.bl.injEq, V.ref.injEq, List.cons.injEq, and_true, true_and, exists_eq_left, exists_eq_left', exists_and_left, exists_eq, exists_eq', decide_eq_true_eq, Bool.not_eq_true', decide_eq_false_iff_not, Bool.false_eq_true, if_false, if_true, reduceIte, ite_self, CMul, CPow, CDiv])
    obtain ⟨a, xs, rfl, ha, hX⟩ := hF
    have hln := hX.len2
    have hk := Rep.kd hd
    have bad : isNon d = false → numD F d = none → Q (.bl false) H := fun h1 h2 => by
      have := q H (Same.refl _)
      rwa [wit_none h1 h2] at this
    cases d with
    | non =>
      have hd : x = .non := hd
      subst hd
      exact ifT rfl (q H (Same.refl _))
    | bl b =>
      have hd : x = .bl b := hd
      subst hd
      exact ifF (fun z => nomatch z) ⟨_, _, rfl, hk, _, rfl, ifT rfl (bad rfl rfl)⟩
    | str b =>
      have hd : x = .str (S b) := hd
      subst hd
      exact ifF (fun z => nomatch z) ⟨_, _, rfl, hk, _, rfl, ifT rfl (bad rfl rfl)⟩
    | tup b =>
      obtain ⟨_, _, rfl, _⟩ := hd
      exact ifF (fun z => nomatch z) ⟨_, _, rfl, hk, _, rfl, ifT rfl (bad rfl rfl)⟩
    | lst b =>
      obtain ⟨_, _, rfl, _⟩ := hd
      exact ifF (fun z => nomatch z) ⟨_, _, rfl, hk, _, rfl, ifT rfl (bad rfl rfl)⟩
    | int i =>
      have hd : x = .int i := hd
      subst hd
      refine ifF (fun z => nomatch z) ⟨_, _, rfl, hk, _, rfl, ifF (fun z => nomatch z) ⟨i, rfl, ite2 (fun h0 => ⟨a, rfl, xs, .inl (SqL.of ha), i, rfl, ite2 (fun h1 => bad rfl ?_) (fun h1 => ?_)⟩) (fun h0 => bad rfl ?_)⟩⟩
      · show (if 0 ≤ i ∧ i < (F.length : Nat) then some i.toNat else none) = none
        rw [if_neg (fun z => h1 (by omega))]
      · obtain ⟨k, rfl⟩ := Int.eq_ofNat_of_zero_le h0
        have hkl : k < F.length := by
          have := Decidable.of_not_not h1
          omega
        have hf : F[k]? = some F[k] := List.getElem?_eq_getElem hkl
        obtain ⟨t, e, et⟩ := fl_at hX hf
        have hn : numD F (.int (k : Nat)) = some k := by
          show (if 0 ≤ (k : Int) ∧ (k : Int) < (F.length : Nat) then some (k : Int).toNat else none) = some k
          rw [if_pos ⟨h0, by omega⟩, Int.toNat_natCast]
        have hw : witD F width side top stop (.int (k : Nat)) = (decide (F[k].left = side) && (decide (F[k].t ≤ top) && (decide (stop ≤ F[k].b) && takes F[k] width))) := by
          unfold witD
          rw [hn]
          simp only [hf]
          rfl
        rw [hw] at q
        refine ⟨a, rfl, xs, _, rfl, SqL.of ha, _, at_nat e, t, rfl, _, SqT.of et, _, at_nat (i := 0) rfl, rfl, ite2 (fun hs => qb (q H (Same.refl _)) ?_) (fun hs => ?_)⟩
        · have hs : F[k].left ≠ side := fun e => hs (by rw [e])
          rw [decide_eq_false hs, Bool.false_and]
        have hs : F[k].left = side := side_inj (Decidable.of_not_not hs)
        rw [decide_eq_true hs, Bool.true_and] at q
        refine ⟨t, rfl, _, SqT.of et, _, at_nat (i := 3) rfl, _, rfl, ite2 (fun h3 => qb (q H (Same.refl _)) ?_) (fun h3 => ?_)⟩
        · rw [decide_eq_false (by omega), Bool.false_and]
        rw [decide_eq_true (show F[k].t ≤ top by omega), Bool.true_and] at q
        refine ⟨t, rfl, _, SqT.of et, _, at_nat (i := 4) rfl, _, rfl, ite2 (fun h4 => qb (q H (Same.refl _)) ?_) (fun h4 => ?_)⟩
        · rw [decide_eq_false (by omega), Bool.false_and]
        rw [decide_eq_true (show stop ≤ F[k].b by omega), Bool.true_and] at q
        exact ⟨t, rfl, _, SqT.of et, _, at_nat (i := 2) rfl, _, rfl, t, rfl, _, SqT.of et, _, at_nat (i := 1) rfl, _, rfl, by decide, fun p hp => ⟨_, SqL.of upd_same, _, takes_at hs, q _ (Same.new hp)⟩⟩
      · show (if 0 ≤ i ∧ i < (F.length : Nat) then some i.toNat else none) = none
        rw [if_neg (fun z => h0 z.1)]
theorem rix {t : Addr} {ys : List V} {j : Nat} {x : V} {H : Hp} {Q : VK} (g : H t = some (.tup ys)) (e : ys[j]? = some x) (q : Q x H) : rIx K (.ref t) (.int (j : Nat)) H Q := .inr (.inl ⟨t, ys, _, x, rfl, rfl, SqT.of g, at_nat e, q⟩)
theorem non_or {G : Hp} {d : D} {x : V} (r : Rep G d x) : (d = .non ∧ x = .non) ∨ (isNon d = false ∧ x ≠ .non) := by
  cases d with
  | non => exact .inl ⟨rfl, r⟩
  | bl b => exact .inr ⟨rfl, fun z => by rw [z] at r; cases r⟩
  | int b => exact .inr ⟨rfl, fun z => by rw [z] at r; cases r⟩
  | str b => exact .inr ⟨rfl, fun z => by rw [z] at r; cases r⟩
  | tup b => exact .inr ⟨rfl, fun z => by rw [z] at r; obtain ⟨_, _, e, _⟩ := r; cases e⟩
  | lst b => exact .inr ⟨rfl, fun z => by rw [z] at r; obtain ⟨_, _, e, _⟩ := r; cases e⟩
theorem wit_val {F : List Fl} {width top stop : Int} {side : Bool} {d : D} {x : V} {G : Hp} (r : Rep G d x) (h : witD F width side top stop d = true) : ∃ o, x = noV o ∧ numD F d = o ∧ ∀ k, o = some k → k < F.length := by
  cases hn : isNon d with
  | true =>
    cases d with
    | non => exact ⟨none, r, rfl, fun k h => nomatch h⟩
    | _ => cases hn
  | false =>
    obtain ⟨k, f, rfl, e, e2⟩ := wit_num h hn
    refine ⟨some k, r, e2, fun k' h => ?_⟩
    have := Option.some.inj h
    have := (List.getElem?_eq_some_iff.mp e).1
    omega
def spLRight : Sp := fun vs H Q _ => ∃ v F width wide st stop x o, vs = [v, .int width, .int wide, .int st, .int stop, x] ∧ Rep H (flsD F) v ∧ F.length ≤ 1000 ∧ RepO H o x ∧ ∀ H', Same H H' → Q (.bl (rightD F width wide st stop o)) H'
theorem okLRight (T : Top K w mg) : Ok P w K mg base CX0 3 "_law_right" ["floats", "width", "w", "start", "stop", "value"] spLRight := by
  have GLawWhole : Ok P w K mg base CX0 1 "_law_whole" ["value"] spWhole := okLawWhole T
  have GLawWitness : Ok P w K mg base CX0 2 "_law_witness" ["floats", "width", "value", "side", "row", "end"] spLWitness := okLWitness T
  have GLawLeftOver : Ok P w K mg base CX0 1 "_law_left_over" ["floats", "width", "i", "j"] spLeft := okLeft T
  have m_isinstance := T.m_isinstance
  have m_list := T.m_list
  have m_tuple := T.m_tuple
  have m_len := T.m_len
  refine mkOk T.f__law_right scLawRight (fun vs H Q E h => ?_) (fun f cdv A outer s H vs Q E hr h => ?_)
  · obtain ⟨_, _, _, _, _, _, _, _, rfl, _⟩ := h
    rfl
  · obtain ⟨v, F, width, wide, st, stop, x, o, rfl, hF, hn, hx, q⟩ := h
    refine ⟨_, pss_cons (ps_if (pt_not (pt_val (pe_callB call_isi (by rfl) m_isinstance (by decide +kernel) (pa_cons (pv 5) (pa_cons (pe_bltn (u := .type "list") (v := .ty "list") (by rfl) m_list (by decide +kernel) rfl) pa_nil)))))
  (pss_one (ps_ret (pe_bl)))
  (pss_nil))
  (pss_cons (ps_set (i := 6) scLawRight.nd rfl (Or.inl rfl) (pv 3))
  (pss_cons (ps_for PassesOwn.never rfl (pi_list (pv 5)) (pg_name (i := 7) scLawRight.nd rfl (Or.inl rfl))
  (pss_cons (ps_if (PW.pt (pw_or (pt_not (pt_val (pe_callB call_isi (by rfl) m_isinstance (by decide +kernel) (pa_cons (pv 7) (pa_cons (pe_bltn (u := .type "tuple") (v := .ty "tuple") (by rfl) m_tuple (by decide +kernel) rfl) pa_nil))))) (pw_or (pt_cmpR op_ne (pe_callB (call_len_seqK (K := K) rfl) (by rfl) m_len PySem.boot_len (pa_cons (pv 7) pa_nil)) (pe_int) (nomark _)) (pw_or (pt_not (pt_val (pcall GLawWhole (hr.mono (by decide)) (by rfl) pass0 (pa_cons (pe_ix ix_seq (pv 7) (pe_int) (fun _ _ => rfl)) pa_nil)))) (pw_or1 (pt_not (pt_val (pcall GLawWhole (hr.mono (by decide)) (by rfl) pass0 (pa_cons (pe_ix ix_seq (pv 7) (pe_int) (fun _ _ => rfl)) pa_nil)))))))))
  (pss_one (ps_ret (pe_bl)))
  (pss_nil))
  (pss_cons (ps_if (PW.pt (pw_or (pt_cmpR op_ne (pe_ix ix_seq (pv 7) (pe_int) (fun _ _ => rfl)) (pv 6) (nomark _)) (pw_or (pt_cmpR op_le (pe_ix ix_seq (pv 7) (pe_int) (fun _ _ => rfl)) (pv 6) (nomark _)) (pw_or1 (PW.pt (pw_and (pt_cmpR op_isN (pe_ix ix_seq (pv 7) (pe_int) (fun _ _ => rfl)) (pe_non) (nomark _)) (pw_and1 (pt_cmpR op_isN (pe_ix ix_seq (pv 7) (pe_int) (fun _ _ => rfl)) (pe_non) (nomark _)))))))))
  (pss_one (ps_ret (pe_bl)))
  (pss_nil))
  (pss_cons (ps_set (i := 6) scLawRight.nd rfl (Or.inl rfl) (pe_ix ix_seq (pv 7) (pe_int) (fun _ _ => rfl)))
  (pss_cons (ps_if (pt_not (pt_val (pcall GLawWitness (hr.mono (by decide)) (by rfl) pass0 (pa_cons (pv 0) (pa_cons (pv 1) (pa_cons (pe_ix ix_seq (pv 7) (pe_int) (fun _ _ => rfl)) (pa_cons (pe_str) (pa_cons (pe_ix ix_seq (pv 7) (pe_int) (fun _ _ => rfl)) (pa_cons (pv 6) pa_nil)))))))))
  (pss_one (ps_ret (pe_bl)))
  (pss_nil))
  (pss_cons (ps_if (pt_not (pt_val (pcall GLawWitness (hr.mono (by decide)) (by rfl) pass0 (pa_cons (pv 0) (pa_cons (pv 1) (pa_cons (pe_ix ix_seq (pv 7) (pe_int) (fun _ _ => rfl)) (pa_cons (pe_str) (pa_cons (pe_ix ix_seq (pv 7) (pe_int) (fun _ _ => rfl)) (pa_cons (pv 6) pa_nil)))))))))
  (pss_one (ps_ret (pe_bl)))
  (pss_nil))
  (pss_one (ps_if (pt_cmpR op_ge (pcall GLawLeftOver (hr.mono (by decide)) (by rfl) pass0 (pa_cons (pv 0) (pa_cons (pv 1) (pa_cons (pe_ix ix_seq (pv 7) (pe_int) (fun _ _ => rfl)) (pa_cons (pe_ix ix_seq (pv 7) (pe_int) (fun _ _ => rfl)) pa_nil))))) (pv 2) (nomark _))
  (pss_one (ps_ret (pe_bl)))
  (pss_nil)))))))))
  (pss_one (ps_ret (pe_cmpR op_eq (pv 6) (pv 4) (nomark _)))))), ?_⟩
    (try simp only [cx_K, cx_w, rIn, rMulS, CwR.tReplC, tM1, tBM0, rPop, rExtend, rReverse, rLenS, rEqE, rNeE, rSetL, rIntI, rIntB, tBM, rAppend, rIxL, rIxT, rCat, rSlL, rSlS, gTup, tYes, wipe, tSeq, tAsg, tIfS, tRet, tRetN, tDrop, tNext, tBreak, tCont, tNever, tAug, ipI, tPar, tPar3, gName, gCons, gNil, gSub, tVar, tC, tOp, tUn, tIf, tAndV, tOrV, tNotV, tAnd, tOr, tNot, L2.tB, tTest, tCmp, tChain, tCB, tCons, tNil, tCall, tCallS, tTup, tLst, tSl, tPart, tNoPart, rI, rI0, rU, rEq, rNe, scal_ii, scal_ss, scal_bb, scal_nn, scal_is, scal_si, rIxS, S_len, S_cps, S_inj, L2.start, List.map_cons, List.map_nil, List.cons_append, List.nil_append, List.append_nil, List.getElem?_cons_zero, List.getElem?_cons_succ, List.set_cons_zero, List.set_cons_succ, List.length_cons, List.length_nil, Nat.reduceAdd, Nat.reduceSub, List.replicate_succ, List.replicate_zero, Option.some.injEq, V.int.injEq, V.str.injEq, V.bl.injEq, V.ref.injEq, List.cons.injEq, and_true, true_and, exists_eq_left, exists_eq_left', exists_and_left, exists_eq, exists_eq', decide_eq_true_eq, Bool.not_eq_true', decide_eq_false_iff_not, Bool.false_eq_true, if_false, if_true, reduceIte, ite_self, CMul, CPow, CDiv])
    have hk := hx.kd
    by_cases hkl : kdO o = .lst
    · obtain ⟨es, rfl⟩ : ∃ ds, o = some (.lst ds) := by
        cases o with
        | none => cases hkl
        | some d => cases d <;> first | exact ⟨_, rfl⟩ | cases hkl
      obtain ⟨a, xs, rfl, ha, hX⟩ := hF
      have hln := hX.len2
      refine isk .lst (by decide) hk ⟨_, rfl, ite2 (fun h => absurd h (show ¬ (isKd .lst .lst = false) by decide)) (fun _ => ?_)⟩
      obtain ⟨al, zs, rfl, gl, hRl⟩ := hx
      have hzl := hRl.length
      refine ⟨_, rfl, al, rfl, ⟨_, SqL.of gl⟩, for_list (xs := zs) (fun i σ H3 => ∃ (row : Int) (b7 : Option V), σ = [some (.ref a), some (.int width), some (.int wide), some (.int st), some (.int stop), some (.ref al), some (.int row), b7] ∧ Same H H3 ∧ runD F width wide st (es.take i) = some row) ?_ ?_ ?_ ?_⟩
      · exact ⟨_, _, rfl, Same.refl _, rfl⟩
      · rintro i σ H3 _ ⟨row, b7, rfl, s3, _⟩
        exact SqL.of (s3 _ _ gl)
      · rintro i x σ H3 hx ⟨row, b7, rfl, s3, hrun⟩
        obtain ⟨d, hd, rd⟩ := hRl.get hx
        have hsp : es = es.take i ++ d :: es.drop (i + 1) := by
          have hil := (List.getElem?_eq_some_iff.mp hd).1
          have := (List.getElem?_eq_some_iff.mp hd).2
          rw [← this, ← List.drop_eq_getElem_cons hil, List.take_append_drop]
        have no : ∀ H', Same H H' → strD F width wide row d = none → Q (.bl false) H' := fun H' s e => by
          refine qb (q H' s) ?_
          have hrn : runD F width wide st es = none := by
            rw [hsp, run_app, hrun]
            show (match strD F width wide row d with | some r => runD F width wide r (es.drop (i + 1)) | none => none) = none
            rw [e]
          show false = decide (runD F width wide st es = some stop)
          rw [hrn]
          rfl
        have rd3 := rd.mono s3
        have hkd := Rep.kd rd3
        have hR3 : Rep H3 (flsD F) (.ref a) := ⟨a, xs, rfl, s3 _ _ ha, hX.mono s3⟩
        clear hx
        (try simp only [cx_K, cx_w, rIn, rMulS, CwR.tReplC, tM1, tBM0, rPop, rExtend, rReverse, rLenS, rEqE, rNeE, rSetL, rIntI, rIntB, tBM, rAppend, rIxL, rIxT, rCat, rSlL, rSlS, gTup, tYes, wipe, tSeq, tAsg, tIfS, tRet, tRetN, tDrop, tNext, tBreak, tCont, tNever, tAug, ipI, tPar, tPar3, gName, gCons, gNil, gSub, tVar, tC, tOp, tUn, tIf, tAndV, tOrV, tNotV, tAnd, tOr, tNot, L2.tB, tTest, tCmp, tChain, tCB, tCons, tNil, tCall, tCallS, tTup, tLst, tSl, tPart, tNoPart, rI, rI0, rU, rEq, rNe, scal_ii, scal_ss, scal_bb, scal_nn, scal_is, scal_si, rIxS, S_len, S_cps, S_inj, L2.start, List.map_cons, List.map_nil, List.cons_append, List.nil_append, List.append_nil, List.getElem?_cons_zero, List.getElem?_cons_succ, List.set_cons_zero, List.set_cons_succ, List.length_cons, List.length_nil, Nat.reduceAdd, Nat.reduceSub, List.replicate_succ, List.replicate_zero, Option.some.injEq, V.int.injEq, V.str.injEq, V.bl.injEq, V.ref.injEq, List.cons.injEq, and_true, true_and, exists_eq_left, exists_eq_left', exists_and_left, exists_eq, exists_eq', decide_eq_true_eq, Bool.not_eq_true', decide_eq_false_iff_not, Bool.false_eq_true, if_false, if_true, reduceIte, ite_self, CMul, CPow, CDiv])
        cases d with
        | non => exact isk .tup (by decide) hkd ⟨_, rfl, ifT rfl (no _ s3 rfl)⟩
        | bl b => exact isk .tup (by decide) hkd ⟨_, rfl, ifT rfl (no _ s3 rfl)⟩
        | int b => exact isk .tup (by decide) hkd ⟨_, rfl, ifT rfl (no _ s3 rfl)⟩
        | str b => exact isk .tup (by decide) hkd ⟨_, rfl, ifT rfl (no _ s3 rfl)⟩
        | lst b => exact isk .tup (by decide) hkd ⟨_, rfl, ifT rfl (no _ s3 rfl)⟩
        | tup ds =>
          refine isk .tup (by decide) hkd ⟨_, rfl, ifF (fun h => absurd h (show ¬ (isKd .tup .tup = false) by decide)) ?_⟩
          obtain ⟨t, ys, rfl, g, hR⟩ := rd3
          have hln2 := hR.length
          refine ⟨t, rfl, ys, .inr (SqT.of g), ite2 (fun h4 => no _ s3 ?_) (fun h4 => ?_)⟩
          · match ds, hln2 with
            | [], _ => rfl
            | [_], _ => rfl
            | [_, _], _ => rfl
            | [_, _, _], _ => rfl
            | [_, _, _, _], hln => exact absurd (by rw [hln]; rfl) h4
            | _ :: _ :: _ :: _ :: _ :: _, _ => rfl
          have h4 : ds.length = 4 := by
            have : ((ys.length : Nat) : Int) = 4 := Decidable.of_not_not h4
            omega
          obtain ⟨d0, d1, d2, d3, rfl⟩ : ∃ d0 d1 d2 d3, ds = [d0, d1, d2, d3] := by
            match ds, h4 with
            | [d0, d1, d2, d3], _ => exact ⟨d0, d1, d2, d3, rfl⟩
          obtain ⟨x0, _, rfl, r0, x1, _, rfl, r1, x2, _, rfl, r2, x3, _, rfl, r3, rfl⟩ := hR
          refine rix (j := 0) g rfl ⟨x0, _, rfl, Rep.kd r0, _, rfl, ite2 (fun h0 => no _ s3 ?_) (fun h0 => ?_)⟩
          · cases d0 <;> first | rfl | exact absurd h0 Bool.noConfusion
          obtain ⟨top, rfl⟩ : ∃ i, d0 = .int i := by
            cases d0 <;> first | exact ⟨_, rfl⟩ | exact absurd rfl h0
          have r0 : x0 = .int top := r0
          subst r0
          refine rix (j := 1) g rfl ⟨x1, _, rfl, Rep.kd r1, _, rfl, ite2 (fun h1 => no _ s3 ?_) (fun h1 => ?_)⟩
          · cases d1 <;> first | rfl | exact absurd h1 Bool.noConfusion
          obtain ⟨stp, rfl⟩ : ∃ i, d1 = .int i := by
            cases d1 <;> first | exact ⟨_, rfl⟩ | exact absurd rfl h1
          have r1 : x1 = .int stp := r1
          subst r1
          have hstr : strD F width wide row (.tup [.int top, .int stp, d2, d3]) = if top = row ∧ top < stp ∧ (isNon d2 && isNon d3) = false ∧ witD F width true top stp d2 = true ∧ witD F width false top stp d3 = true ∧ highN F width (numD F d3) - lowN F (numD F d2) < wide then some stp else none := rfl
          refine rix (j := 0) g rfl ⟨rfl, ite2 (fun h5 => no _ s3 ?_) (fun h5 => ?_)⟩
          · rw [hstr, if_neg (fun z => h5 (by rw [z.1]))]
          have h5 : top = row := V.int.inj (Decidable.of_not_not h5)
          refine rix (j := 1) g rfl ⟨_, rfl, ite2 (fun h6 => no _ s3 ?_) (fun h6 => ?_)⟩
          · rw [hstr, if_neg (fun z => by omega)]
          have hx2 : (d2 = .non ∧ x2 = .non) ∨ (isNon d2 = false ∧ x2 ≠ .non) := non_or r2
          have hx3 : (d3 = .non ∧ x3 = .non) ∨ (isNon d3 = false ∧ x3 ≠ .non) := non_or r3
          have gt : ∀ b : Bool, ¬ b = false → b = true := fun b h => by cases b <;> first | rfl | exact absurd rfl h
          have nw2 : witD F width true top stp d2 = false → strD F width wide row (.tup [.int top, .int stp, d2, d3]) = none := fun e => by rw [hstr, if_neg (fun z => by rw [e] at z; exact absurd z.2.2.2.1 Bool.false_ne_true)]
          have nw3 : witD F width false top stp d3 = false → strD F width wide row (.tup [.int top, .int stp, d2, d3]) = none := fun e => by rw [hstr, if_neg (fun z => by rw [e] at z; exact absurd z.2.2.2.2.1 Bool.false_ne_true)]
          refine rix (j := 2) g rfl ?_
          rcases hx2 with ⟨rfl, e2⟩ | ⟨n2, e2⟩
          · refine ifT e2 (rix (j := 3) g rfl ?_)
            rcases hx3 with ⟨rfl, e3⟩ | ⟨n3, e3⟩
            · exact ifT e3 (no _ s3 (by rw [hstr, if_neg (fun z => absurd z.2.2.1 (by decide))]))
            · refine ifF e3 ?_
              have hb : (isNon .non && isNon d3) = false := by rw [n3]; rfl
              refine rix (j := 1) g rfl (rix (j := 2) g rfl (rix (j := 0) g rfl ⟨.ref a, F, width, x2, .non, true, top, stp, rfl, hR3, hn, r2, fun H4 s4 => ⟨_, rfl, ite2 (fun hw2 => no _ (s3.trans s4) (nw2 hw2)) (fun hw2 => ?_)⟩⟩))
              refine rix (j := 3) (s4 _ _ g) rfl (rix (j := 0) (s4 _ _ g) rfl ⟨.ref a, F, width, x3, d3, false, top, stp, rfl, hR3.mono s4, hn, r3.mono s4, fun H5 s5 => ⟨_, rfl, ite2 (fun hw3 => no _ ((s3.trans s4).trans s5) (nw3 hw3)) (fun hw3 => ?_)⟩⟩)
              have s45 := s4.trans s5
              have s05 := s3.trans s45
              obtain ⟨oi, hx2, hn2, hk2⟩ := wit_val r2 (gt _ hw2)
              obtain ⟨oj, hx3, hn3, hk3⟩ := wit_val r3 (gt _ hw3)
              refine rix (j := 2) (s45 _ _ g) rfl (rix (j := 3) (s45 _ _ g) rfl ⟨.ref a, F, width, oi, oj, by rw [hx2, hx3], hR3.mono s45, hk2, hk3, _, rfl, ite2 (fun hl => no _ s05 ?_) (fun hl => ?_)⟩)
              · rw [hstr, if_neg (fun z => by have := z.2.2.2.2.2; rw [hn2, hn3] at this; omega)]
              · refine ⟨stp, _, ⟨rfl, rfl⟩, s05, ?_⟩
                rw [take_snoc hd, run_snoc _ _ _ _ hrun, hstr, if_pos ⟨h5, by omega, hb, gt _ hw2, gt _ hw3, by rw [hn2, hn3]; omega⟩]
          · refine ifF e2 ?_
            have hb : (isNon d2 && isNon d3) = false := by rw [n2]; rfl
            refine rix (j := 1) g rfl (rix (j := 2) g rfl (rix (j := 0) g rfl ⟨.ref a, F, width, x2, d2, true, top, stp, rfl, hR3, hn, r2, fun H4 s4 => ⟨_, rfl, ite2 (fun hw2 => no _ (s3.trans s4) (nw2 hw2)) (fun hw2 => ?_)⟩⟩))
            refine rix (j := 3) (s4 _ _ g) rfl (rix (j := 0) (s4 _ _ g) rfl ⟨.ref a, F, width, x3, d3, false, top, stp, rfl, hR3.mono s4, hn, r3.mono s4, fun H5 s5 => ⟨_, rfl, ite2 (fun hw3 => no _ ((s3.trans s4).trans s5) (nw3 hw3)) (fun hw3 => ?_)⟩⟩)
            have s45 := s4.trans s5
            have s05 := s3.trans s45
            obtain ⟨oi, hx2, hn2, hk2⟩ := wit_val r2 (gt _ hw2)
            obtain ⟨oj, hx3, hn3, hk3⟩ := wit_val r3 (gt _ hw3)
            refine rix (j := 2) (s45 _ _ g) rfl (rix (j := 3) (s45 _ _ g) rfl ⟨.ref a, F, width, oi, oj, by rw [hx2, hx3], hR3.mono s45, hk2, hk3, _, rfl, ite2 (fun hl => no _ s05 ?_) (fun hl => ?_)⟩)
            · rw [hstr, if_neg (fun z => by have := z.2.2.2.2.2; rw [hn2, hn3] at this; omega)]
            · refine ⟨stp, _, ⟨rfl, rfl⟩, s05, ?_⟩
              rw [take_snoc hd, run_snoc _ _ _ _ hrun, hstr, if_pos ⟨h5, by omega, hb, gt _ hw2, gt _ hw3, by rw [hn2, hn3]; omega⟩]
      · rintro σ H3 ⟨row, b7, rfl, s3, hrun⟩
        rw [hzl, List.take_length] at hrun
        (try simp only [cx_K, cx_w, rIn, rMulS, CwR.tReplC, tM1, tBM0, rPop, rExtend, rReverse, rLenS, rEqE, rNeE, rSetL, rIntI, rIntB, tBM, rAppend, rIxL, rIxT, rCat, rSlL, rSlS, gTup, tYes, wipe, tSeq, tAsg, tIfS, tRet, tRetN, tDrop, tNext, tBreak, tCont, tNever, tAug, ipI, tPar, tPar3, gName, gCons, gNil, gSub, tVar, tC, tOp, tUn, tIf, tAndV, tOrV, tNotV, tAnd, tOr, tNot, L2.tB, tTest, tCmp, tChain, tCB, tCons, tNil, tCall, tCallS, tTup, tLst, tSl, tPart, tNoPart, rI, rI0, rU, rEq, rNe, scal_ii, scal_ss, scal_bb, scal_nn, scal_is, scal_si, rIxS, S_len, S_cps, S_inj, L2.start, List.map_cons, List.map_nil, List.cons_append, List.nil_append, List.append_nil, List.getElem?_cons_zero, List.getElem?_cons_succ, List.set_cons_zero, List.set_cons_succ, List.length_cons, List.length_nil, Nat.reduceAdd, Nat.reduceSub, List.replicate_succ, List.replicate_zero, Option.some.injEq, V.int.injEq, V.str.injEq, V.bl.injEq, V.ref.injEq, List.cons.injEq, and_true, true_and, exists_eq_left, exists_eq_left', exists_and_left, exists_eq, exists_eq', decide_eq_true_eq, Bool.not_eq_true', decide_eq_false_iff_not, Bool.false_eq_true, if_false, if_true, reduceIte, ite_self, CMul, CPow, CDiv])
        refine qb (q H3 s3) ?_
        show _ = decide (runD F width wide st es = some stop)
        rw [hrun, decide_eq_decide]
        constructor
        · intro e
          rw [e]
        · intro e
          exact Option.some.inj e
    · have hno : rightD F width wide st stop o = false := by
        cases o with
        | none => rfl
        | some d => cases d <;> first | rfl | exact absurd rfl hkl
      refine isk .lst (by decide) hk ⟨_, rfl, ifT ?_ (qb (q H (Same.refl _)) hno.symm)⟩
      cases h : kdO o <;> first | rfl | exact absurd h hkl
end
end K92


namespace K92
open PySem PySem.Spec PyProof.Rows L2 KB
section
variable {P : Program} {w : World} {K : PySem.W.Frag} {mg : Str → Option Value} {base : Heap}
theorem noV_non {o : Option Nat} (h : noV o = .non) : o = none := by
  cases o with
  | none => rfl
  | some k => cases h
theorem _root_.KB.Pst.tup {P t : Addr} {H H' : Hp} {ys : List V} (st : Pst P H H') (hP : PoolAt P H) (e : H t = some (.tup ys)) : H' t = some (.tup ys) := st.kp t _ (fun z => by
  obtain ⟨p, r, ep, _⟩ := hP
  rw [← z, e] at ep
  cases ep) e
def endsN (F : List Fl) : Option Nat → List Int
  | none => []
  | some k => match F[k]? with | some f => [f.b] | none => []
theorem ends_len (F : List Fl) (oi oj : Option Nat) (b : Nat) : (([oi, oj].take b).flatMap (endsN F)).length ≤ 2 := by
  have h1 : ∀ o, (endsN F o).length ≤ 1 := fun o => by
    unfold endsN
    split
    · exact Nat.zero_le _
    · split
      · exact Nat.le_refl _
      · exact Nat.zero_le _
  have a := h1 oi
  have c := h1 oj
  match b with
  | 0 => exact Nat.zero_le _
  | 1 =>
    show (endsN F oi ++ []).length ≤ 2
    rw [List.append_nil]
    omega
  | b + 2 =>
    show (endsN F oi ++ (endsN F oj ++ List.flatMap (endsN F) (List.take b []))).length ≤ 2
    rw [List.take_nil]
    show (endsN F oi ++ (endsN F oj ++ [])).length ≤ 2
    rw [List.append_nil, List.length_append]
    omega
def PairC (F : List Fl) (width wide : Int) (i j : Option Nat) : Prop := (i ≠ none ∨ j ≠ none) ∧ highN F width j - lowN F i < wide
def PairOk (F : List Fl) (width wide : Int) (os1 os2 : List (Option Nat)) (H : Hp) (z : V) : Prop := ∃ t i j, z = .ref t ∧ H t = some (.tup [noV i, noV j]) ∧ i ∈ os1 ∧ j ∈ os2 ∧ PairC F width wide i j
theorem PairOk.mono {F : List Fl} {width wide : Int} {os1 os2 : List (Option Nat)} {H H' : Hp} {z : V} (m : ∀ t ys, H t = some (.tup ys) → H' t = some (.tup ys)) (h : PairOk F width wide os1 os2 H z) : PairOk F width wide os1 os2 H' z := by
  obtain ⟨t, i, j, e, g, r⟩ := h
  exact ⟨t, i, j, e, m _ _ g, r⟩
def spMade : Sp := fun vs H Q _ => ∃ Pa v F width wide st r, vs = [.ref Pa, v, .int width, .int wide, .int st, .int r] ∧ PoolAt Pa H ∧ Rep (hide [Pa] H) (flsD F) v ∧ F.length ≤ 100 ∧ IsRow F 0 width wide st r ∧ Tops F st ∧
  ∀ (ps : List Stp) (t : Addr) (xs : List V) (H' : Hp), runD F width wide st (ps.map stpD) = some r → ps.length ≤ 300 → Pst Pa H H' → H t = none → H' t = some (.lst xs) → Reps (hide [t] (since H H')) (ps.map stpD) xs → Q (.ref t) H'
theorem okMade (T : Top K w mg) : Ok P w K mg base CX0 3 "_law_made" ["pool", "floats", "width", "w", "start", "stop"] spMade := by
  have GLawPick : Ok P w K mg base CX0 1 "_law_pick" ["pool", "many"] spPick := okPick T
  have GLawFar : Ok P w K mg base CX0 2 "_law_far" ["pool", "many"] spFar := okFar T
  have GLawNumbers : Ok P w K mg base CX0 1 "_law_numbers" ["floats", "width", "side", "row"] spNums := okNums T
  have GLawLeftOver : Ok P w K mg base CX0 1 "_law_left_over" ["floats", "width", "i", "j"] spLeft := okLeft T
  have m_range := T.m_range
  have m_int := T.m_int
  have m_len := T.m_len
  have m_min := T.m_min
  refine mkOk T.f__law_made scLawMade (fun vs H Q E h => ?_) (fun f cdv A outer s H vs Q E hr h => ?_)
  · obtain ⟨_, _, _, _, _, _, _, rfl, _⟩ := h
    rfl
  · obtain ⟨Pa, v, F, width, wide, st, r, rfl, hP, hF, hn, hR, hT, q⟩ := h
    refine ⟨_, pss_cons (ps_par3 (i := 6) (j := 7) (l := 8) rfl scLawMade.nd rfl rfl rfl (by decide) (by decide) (by decide) rfl rfl rfl (pa_cons (pe_lst (pa_nil)) (pa_cons (pv 4) (pa_cons (pe_int) pa_nil))) (by rfl))
  (pss_cons (ps_for PassesOwn.never rfl (pi_range1 rfl m_range (pa_cons (pe_int) pa_nil)) (pg_name (i := 9) scLawMade.nd rfl (Or.inl rfl))
  (pss_cons (ps_if (pt_cmpR op_eq (pv 7) (pv 5) (nomark _))
  (pss_one (ps_break))
  (pss_nil))
  (pss_cons (ps_par3 (i := 10) (j := 11) (l := 12) rfl scLawMade.nd rfl rfl rfl (by decide) (by decide) (by decide) rfl rfl rfl (pa_cons (pcall GLawNumbers (hr.mono (by decide)) (by rfl) pass0 (pa_cons (pv 1) (pa_cons (pv 2) (pa_cons (pe_str) (pa_cons (pv 7) pa_nil))))) (pa_cons (pcall GLawNumbers (hr.mono (by decide)) (by rfl) pass0 (pa_cons (pv 1) (pa_cons (pv 2) (pa_cons (pe_str) (pa_cons (pv 7) pa_nil))))) (pa_cons (pe_lst (pa_nil)) pa_nil))) (by rfl))
  (pss_cons (ps_for PassesOwn.never rfl (pi_list (pv 10)) (pg_name (i := 13) scLawMade.nd rfl (Or.inr rfl))
  (pss_one (ps_set (i := 12) scLawMade.nd rfl (Or.inl rfl) (pe_op op_cat (pv 12) (pe_lc (own := [("j", 14)]) rfl scLawMade.nd (pi_list (pv 11)) (blkOk_by (own := [("j", 14)]) (N := ["pool", "floats", "width", "w", "start", "stop", "paper", "row", "cuts", "turn", "lefts", "rights", "pairs", "i", "j", "ends", "end", "k"]) (sc := defScope sLawMade) (by decide +kernel)) (fun _ _ _ _ _ => pg_name (i := 14) scLawMade.nd rfl (Or.inl rfl)) (fun _ _ _ _ _ => pts_one (PW.pt (pw_and (PW.pt (pw_or (pt_cmpR op_notN (pv 13) (pe_non) (nomark _)) (pw_or1 (pt_cmpR op_notN (pv 14) (pe_non) (nomark _))))) (pw_and1 (pt_cmpR op_lt (pcall GLawLeftOver (hr.mono (by decide)) (by rfl) pass0 (pa_cons (pv 1) (pa_cons (pv 2) (pa_cons (pv 13) (pa_cons (pv 14) pa_nil))))) (pv 3) (nomark _)))))) (fun _ _ _ _ _ => pe_tup (pa_cons (pv 13) (pa_cons (pv 14) pa_nil))))))))
  (pss_cons (ps_if (pt_cmpR (op_eqE hr.units0) (pv 12) (pe_lst (pa_nil)) (nomark _))
  (pss_one (ps_break))
  (pss_nil))
  (pss_cons (ps_asg (pe_ix ix_list (pv 12) (pcall GLawFar (hr.mono (by decide)) (by rfl) pass0 (pa_cons (pv 0) (pa_cons (pe_callB (call_len_seqK (K := K) rfl) (by rfl) m_len PySem.boot_len (pa_cons (pv 12) pa_nil)) pa_nil))) (fun _ _ => rfl)) (pg_tup (n := 2) rfl (pgs_cons (pg_name (i := 13) scLawMade.nd rfl (Or.inr rfl)) (pgs_cons (pg_name (i := 14) scLawMade.nd rfl (Or.inl rfl)) pgs_nil))))
  (pss_cons (ps_setLc (i := 15) (own := [("k", 17)]) rfl scLawMade.nd rfl rfl (sw_true rfl rfl rfl (by decide +kernel)) (pi_list (pe_lst (pa_cons (pv 13) (pa_cons (pv 14) pa_nil)))) (blkOk_by (own := [("k", 17)]) (N := ["pool", "floats", "width", "w", "start", "stop", "paper", "row", "cuts", "turn", "lefts", "rights", "pairs", "i", "j", "ends", "end", "k"]) (sc := defScope sLawMade) (by decide +kernel)) (fun _ _ _ _ _ => pg_name (i := 17) scLawMade.nd rfl (Or.inl rfl)) (fun _ _ _ _ _ => pts_one (pt_cmpR op_notN (pv 17) (pe_non) (nomark _))) (fun _ _ _ _ _ => pe_ix (ix_tupK (K := K) rfl) (pe_ix (ix_listK (K := K) rfl) (pv 1) (pv 17) (fun _ _ => rfl)) (pe_int) (fun _ _ => rfl)))
  (pss_cons (ps_set (i := 16) scLawMade.nd rfl (Or.inl rfl) (pe_callB (cr_min rfl) (by rfl) m_min (by decide +kernel) (pa_cons (pe_op op_cat (pv 15) (pe_lst (pa_cons (pv 5) pa_nil))) pa_nil)))
  (pss_cons (ps_if (PW.pt (pw_and (pt_cmpR op_lt (pv 8) (pe_int) (nomark _)) (pw_and (pt_cmpR op_gt (pe_op op_sub (pv 16) (pv 7)) (pe_int) (nomark _)) (pw_and1 (pt_cmpR op_eq (pcall GLawPick (hr.mono (by decide)) (by rfl) pass0 (pa_cons (pv 0) (pa_cons (pe_int) pa_nil))) (pe_int) (nomark _))))))
  (pss_one (ps_par (i := 16) (j := 8) rfl scLawMade.nd rfl rfl (by decide) rfl rfl (pa_cons (pe_op op_add (pe_op op_add (pv 7) (pe_int)) (pe_op op_mod (pe_callTy call_intI (by rfl) m_int (by decide +kernel) (pa_cons (pcall GLawFar (hr.mono (by decide)) (by rfl) pass0 (pa_cons (pv 0) (pa_cons (pe_int) pa_nil))) pa_nil)) (pe_op op_sub (pe_op op_sub (pv 16) (pv 7)) (pe_int)))) (pa_cons (pe_op op_add (pv 8) (pe_int)) pa_nil)) (by rfl)))
  (pss_nil))
  (pss_cons (ps_expr (pe_bm PySem.F.plainAttrs_list PySem.F.slot_list_append PySem.F.type_list_append mt_append (pv 6) (pa_cons (pe_tup (pa_cons (pv 7) (pa_cons (pv 16) (pa_cons (pv 13) (pa_cons (pv 14) pa_nil))))) pa_nil)))
  (pss_one (ps_set (i := 7) scLawMade.nd rfl (Or.inl rfl) (pv 16)))))))))))))
  (pss_one (ps_ret (pv 6)))), ?_⟩
    (try simp only [cx_K, cx_w, rIn, rMulS, CwR.tReplC, tM1, tBM0, rPop, rExtend, rReverse, rLenS, rEqE, rNeE, rSetL, rIntI, rIntB, tBM, rAppend, rIxL, rIxT, rCat, rSlL, rSlS, gTup, tYes, wipe, tSeq, tAsg, tIfS, tRet, tRetN, tDrop, tNext, tBreak, tCont, tNever, tAug, ipI, tPar, tPar3, gName, gCons, gNil, gSub, tVar, tC, tOp, tUn, tIf, tAndV, tOrV, tNotV, tAnd, tOr, tNot, L2.tB, tTest, tCmp, tChain, tCB, tCons, tNil, tCall, tCallS, tTup, tLst, tSl, tPart, tNoPart, rI, rI0, rU, rEq, rNe, scal_ii, scal_ss, scal_bb, scal_nn, scal_is, scal_si, rIxS, S_len, S_cps, S_inj, L2.start, List.map_cons, List.map_nil, List.cons_append, List.nil_append, List.append_nil, List.getElem?_cons_zero, List.getElem?_cons_succ, List.set_cons_zero, List.set_cons_succ, List.length_cons, List.length_nil, Nat.reduceAdd, Nat.reduceSub, List.replicate_succ, List.replicate_zero, Option.some.injEq, V.int.injEq, V.str.injEq, V.bl.injEq, V.ref.injEq, List.cons.injEq, and_true, true_and, exists_eq_left, exists_eq_left', exists_and_left, exists_eq, exists_eq', decide_eq_true_eq, Bool.not_eq_true', decide_eq_false_iff_not, Bool.false_eq_true, if_false, if_true, reduceIte, ite_self, CMul, CPow, CDiv])
    obtain ⟨a, xs, rfl, ha, hX⟩ := hF
    have hln := hX.len2
    have ha' := hide_sub _ _ ha
    refine ⟨Nat.zero_le _, fun p hp => ⟨_, _, _, ⟨rfl, rfl, rfl⟩, ?_⟩⟩
    have npP : p ≠ Pa := fun e => by rw [e] at hp; exact hP.ne hp
    have hPne := hP.ne
    have st0 : Pst Pa H (upd H p (.lst [])) := (Pst.refl hP).new hp
    -- the floats stay
    have fls : ∀ {H1 : Hp}, Pst Pa H H1 → Rep (hide [Pa] H1) (flsD F) (.ref a) := fun st1 => Rep.mono st1.kp.hide ⟨a, xs, rfl, ha, hX⟩
    refine ⟨_, rfl, by decide, by decide, for_range (lo := 0) (n := ((300 : Int)).toNat) (fun i σ H1 => ∃ (ps : List Stp) (zs : List V) (row cuts : Int) (b9 b10 b11 b12 b13 b14 b15 b16 : Option V), σ = [some (.ref Pa), some (.ref a), some (.int width), some (.int wide), some (.int st), some (.int r), some (.ref p), some (.int row), some (.int cuts), b9, b10, b11, b12, b13, b14, b15, b16, none] ∧
      Pst Pa H H1 ∧ H1 p = some (.lst zs) ∧ Reps (hide [p] (since H H1)) (ps.map stpD) zs ∧ runD F width wide st (ps.map stpD) = some row ∧ ps.length ≤ i ∧ st ≤ row ∧ row ≤ r ∧ 0 ≤ cuts ∧ cuts ≤ 20 ∧ (row = r ∨ (i : Int) + cnt F row + (20 - cuts) ≤ F.length + 20)) ?_ ?_ ?_⟩
    · refine ⟨[], [], st, 0, _, _, _, _, _, _, _, _, rfl, st0, upd_same, rfl, rfl, Nat.le_refl _, Int.le_refl _, hR.ge, by decide, by decide, .inr ?_⟩
      have := cnt_le F st
      omega
    · rintro i σ H1 hi ⟨ps, zs, row, cuts, b9, b10, b11, b12, b13, b14, b15, b16, rfl, st1, ep, hps, hrun, hlen, hr0, hr1, hc0, hc1, hmes⟩
      have hi : i < 300 := hi
      (try simp only [cx_K, cx_w, rIn, rMulS, CwR.tReplC, tM1, tBM0, rPop, rExtend, rReverse, rLenS, rEqE, rNeE, rSetL, rIntI, rIntB, tBM, rAppend, rIxL, rIxT, rCat, rSlL, rSlS, gTup, tYes, wipe, tSeq, tAsg, tIfS, tRet, tRetN, tDrop, tNext, tBreak, tCont, tNever, tAug, ipI, tPar, tPar3, gName, gCons, gNil, gSub, tVar, tC, tOp, tUn, tIf, tAndV, tOrV, tNotV, tAnd, tOr, tNot, L2.tB, tTest, tCmp, tChain, tCB, tCons, tNil, tCall, tCallS, tTup, tLst, tSl, tPart, tNoPart, rI, rI0, rU, rEq, rNe, scal_ii, scal_ss, scal_bb, scal_nn, scal_is, scal_si, rIxS, S_len, S_cps, S_inj, L2.start, List.map_cons, List.map_nil, List.cons_append, List.nil_append, List.append_nil, List.getElem?_cons_zero, List.getElem?_cons_succ, List.set_cons_zero, List.set_cons_succ, List.length_cons, List.length_nil, Nat.reduceAdd, Nat.reduceSub, List.replicate_succ, List.replicate_zero, Option.some.injEq, V.int.injEq, V.str.injEq, V.bl.injEq, V.ref.injEq, List.cons.injEq, and_true, true_and, exists_eq_left, exists_eq_left', exists_and_left, exists_eq, exists_eq', decide_eq_true_eq, Bool.not_eq_true', decide_eq_false_iff_not, Bool.false_eq_true, if_false, if_true, reduceIte, ite_self, CMul, CPow, CDiv])
      refine ite2 (fun he => ?_) (fun he => ?_)
      · have he : row = r := he
        subst he
        exact q ps p zs H1 hrun (by omega) st1 hp ep hps
      have hlt : row < r := by
        have : row ≠ r := he
        omega
      have hmes : (i : Int) + cnt F row + (20 - cuts) ≤ F.length + 20 := by
        rcases hmes with h | h
        · omega
        · exact h
      have hng := hR.least row hr0 hlt
      refine ⟨.ref a, F, width, true, row, rfl, (fls st1).mono hide_sub, by omega, fun os1 t1 H2 hN1 s2 ht1 et1 => ⟨.ref a, F, width, false, row, rfl, (fls (st1.same s2)).mono hide_sub, by omega, fun os2 t2 H3 hN2 s3 ht2 et2 => ⟨Nat.zero_le _, fun tp htp => ⟨_, _, _, ⟨rfl, rfl, rfl⟩, ?_⟩⟩⟩⟩
      have et1' := s3 _ _ et1
      have s4 : Same H1 (upd H3 tp (.lst [])) := (s2.trans s3).trans (Same.new htp)
      have st4 := st1.same s4
      have e1 : upd H3 tp (.lst []) t1 = some (.lst (os1.map noV)) := (Same.new htp) _ _ et1'
      have e2 : upd H3 tp (.lst []) t2 = some (.lst (os2.map noV)) := (Same.new htp) _ _ et2
      have etp : upd H3 tp (.lst []) tp = some (.lst []) := upd_same
      have ep4 := s4 _ _ ep
      have hps4 : Reps (hide [p] (since H (upd H3 tp (.lst [])))) (ps.map stpD) zs := hps.mono (Pst.since hPne ⟨s4.kp, st4.pool⟩).hide
      generalize upd H3 tp (.lst []) = H4 at *
      clear et1' et1 et2 ht1 ht2 htp s2 s3 s4 st1 hps ep st0
      have hlt1 : ∀ k, some k ∈ os1 → k < F.length := fun k h => by
        obtain ⟨f, e, _⟩ := hN1.num k h
        exact (List.getElem?_eq_some_iff.mp e).1
      have hlt2 : ∀ k, some k ∈ os2 → k < F.length := fun k h => by
        obtain ⟨f, e, _⟩ := hN2.num k h
        exact (List.getElem?_eq_some_iff.mp e).1
      have hl1 : os1.length ≤ 101 := by have := hN1.len; omega
      have hl2 : os2.length ≤ 101 := by have := hN2.len; omega
      refine ⟨_, rfl, t1, rfl, ⟨_, SqL.of e1⟩, for_list (xs := os1.map noV) (fun m σ H5 => ∃ (b13 b14 : Option V) (tq : Addr) (zq : List V), σ = [some (.ref Pa), some (.ref a), some (.int width), some (.int wide), some (.int st), some (.int r), some (.ref p), some (.int row), some (.int cuts), some (.int (0 + (i : Int))), some (.ref t1), some (.ref t2), some (.ref tq), b13, b14, b15, b16, none] ∧
        Same H4 H5 ∧ H5 tq = some (.lst zq) ∧ (∀ z ∈ zq, PairOk F width wide os1 os2 H5 z) ∧ zq.length ≤ m * 101 ∧ ∀ x ∈ os1.take m, ∀ y ∈ os2, PairC F width wide x y → zq ≠ []) ?_ ?_ ?_ ?_⟩
      · exact ⟨_, _, tp, [], rfl, Same.refl _, etp, (fun z h => nomatch h), Nat.zero_le _, fun x hx => nomatch hx⟩
      · rintro m σ H5 _ ⟨b13, b14, tq, zq, rfl, s5, _⟩
        exact SqL.of (s5 _ _ e1)
      · rintro m x σ H5 hx ⟨b13, b14, tq, zq, rfl, s5, eq, hpair, hzl, hall⟩
        rw [List.getElem?_map] at hx
        obtain ⟨oi, hoi, rfl⟩ := Option.map_eq_some_iff.mp hx
        have hoim : oi ∈ os1 := List.mem_of_getElem? hoi
        have hml : m < os1.length := (List.getElem?_eq_some_iff.mp hoi).1
        (try simp only [cx_K, cx_w, rIn, rMulS, CwR.tReplC, tM1, tBM0, rPop, rExtend, rReverse, rLenS, rEqE, rNeE, rSetL, rIntI, rIntB, tBM, rAppend, rIxL, rIxT, rCat, rSlL, rSlS, gTup, tYes, wipe, tSeq, tAsg, tIfS, tRet, tRetN, tDrop, tNext, tBreak, tCont, tNever, tAug, ipI, tPar, tPar3, gName, gCons, gNil, gSub, tVar, tC, tOp, tUn, tIf, tAndV, tOrV, tNotV, tAnd, tOr, tNot, L2.tB, tTest, tCmp, tChain, tCB, tCons, tNil, tCall, tCallS, tTup, tLst, tSl, tPart, tNoPart, rI, rI0, rU, rEq, rNe, scal_ii, scal_ss, scal_bb, scal_nn, scal_is, scal_si, rIxS, S_len, S_cps, S_inj, L2.start, List.map_cons, List.map_nil, List.cons_append, List.nil_append, List.append_nil, List.getElem?_cons_zero, List.getElem?_cons_succ, List.set_cons_zero, List.set_cons_succ, List.length_cons, List.length_nil, Nat.reduceAdd, Nat.reduceSub, List.replicate_succ, List.replicate_zero, Option.some.injEq, V.int.injEq, V.str.injEq, V.bl.injEq, V.ref.injEq, List.cons.injEq, and_true, true_and, exists_eq_left, exists_eq_left', exists_and_left, exists_eq, exists_eq', decide_eq_true_eq, Bool.not_eq_true', decide_eq_false_iff_not, Bool.false_eq_true, if_false, if_true, reduceIte, ite_self, CMul, CPow, CDiv])
        refine ⟨_, rfl, t2, rfl, ⟨_, SqL.of (s5 _ _ e2)⟩, fun D hD => lc_list (xs := os2.map noV) (fun b H6 => Same H5 H6 ∧ ∃ acc, H6 D = some (.lst acc) ∧ (∀ z ∈ acc, PairOk F width wide os1 os2 H6 z) ∧ acc.length ≤ b ∧ ∀ y ∈ os2.take b, PairC F width wide oi y → acc ≠ []) ⟨Same.new hD, [], upd_same, (fun z h => nomatch h), Nat.zero_le _, fun y h => nomatch h⟩ (fun b H6 _ h => SqL.of (h.1 _ _ (s5 _ _ e2))) (fun b x H6 hx hP => ?_) (fun H6 hP => ?_)⟩
        · obtain ⟨s6, acc, eD, hpa, hal, hac⟩ := hP
          rw [List.getElem?_map] at hx
          obtain ⟨oj, hoj, rfl⟩ := Option.map_eq_some_iff.mp hx
          have hojm : oj ∈ os2 := List.mem_of_getElem? hoj
          have hbl : b < os2.length := (List.getElem?_eq_some_iff.mp hoj).1
          have hno : ¬ PairC F width wide oi oj → ∀ y ∈ os2.take (b + 1), PairC F width wide oi y → acc ≠ [] := fun hn y hy hc => by
            rw [take_snoc hoj] at hy
            rcases List.mem_append.mp hy with h | h
            · exact hac y h hc
            · rw [List.mem_singleton.mp h] at hc
              exact absurd hc hn
          refine ⟨rfl, ?_⟩
          (try simp only [cx_K, cx_w, rIn, rMulS, CwR.tReplC, tM1, tBM0, rPop, rExtend, rReverse, rLenS, rEqE, rNeE, rSetL, rIntI, rIntB, tBM, rAppend, rIxL, rIxT, rCat, rSlL, rSlS, gTup, tYes, wipe, tSeq, tAsg, tIfS, tRet, tRetN, tDrop, tNext, tBreak, tCont, tNever, tAug, ipI, tPar, tPar3, gName, gCons, gNil, gSub, tVar, tC, tOp, tUn, tIf, tAndV, tOrV, tNotV, tAnd, tOr, tNot, L2.tB, tTest, tCmp, tChain, tCB, tCons, tNil, tCall, tCallS, tTup, tLst, tSl, tPart, tNoPart, rI, rI0, rU, rEq, rNe, scal_ii, scal_ss, scal_bb, scal_nn, scal_is, scal_si, rIxS, S_len, S_cps, S_inj, L2.start, List.map_cons, List.map_nil, List.cons_append, List.nil_append, List.append_nil, List.getElem?_cons_zero, List.getElem?_cons_succ, List.set_cons_zero, List.set_cons_succ, List.length_cons, List.length_nil, Nat.reduceAdd, Nat.reduceSub, List.replicate_succ, List.replicate_zero, Option.some.injEq, V.int.injEq, V.str.injEq, V.bl.injEq, V.ref.injEq, List.cons.injEq, and_true, true_and, exists_eq_left, exists_eq_left', exists_and_left, exists_eq, exists_eq', decide_eq_true_eq, Bool.not_eq_true', decide_eq_false_iff_not, Bool.false_eq_true, if_false, if_true, reduceIte, ite_self, CMul, CPow, CDiv])
          refine ite2 (fun hc1 => ?_) (fun hc1 => ite2 (fun hc2 => ?_) (fun hc2 => ?_))
          · have hne : oi ≠ none := fun z => hc1 (by rw [z]; rfl)
            refine ⟨.ref a, F, width, oi, oj, rfl, (fls ((st4.same s5).same s6)).mono hide_sub, (fun k h => hlt1 k (h ▸ hoim)), (fun k h => hlt2 k (h ▸ hojm)), _, rfl, ite2 (fun hc => ⟨by decide, fun t ht => ?_⟩) (fun hc => ⟨s6, acc, eD, hpa, by omega, hno (fun z => hc z.2)⟩)⟩
            have m1 : ∀ t' ys, H6 t' = some (.tup ys) → upd (upd H6 t (.tup [noV oi, noV oj])) D (.lst (acc ++ [.ref t])) t' = some (.tup ys) := fun t' ys e => tup_upd ((Same.new ht) _ _ eD) _ _ ((Same.new ht) _ _ e)
            have m2 : upd (upd H6 t (.tup [noV oi, noV oj])) D (.lst (acc ++ [.ref t])) t = some (.tup [noV oi, noV oj]) := tup_upd ((Same.new ht) _ _ eD) _ _ upd_same
            refine ⟨acc, (Same.new ht) _ _ eD, sz5' (by omega), (s6.trans (Same.new ht)).mut hD, acc ++ [.ref t], upd_same, fun z hz => ?_, by rw [List.length_append, List.length_singleton]; omega, fun _ _ _ => by simp⟩
            rcases List.mem_append.mp hz with h | h
            · exact (hpa z h).mono m1
            · rw [List.mem_singleton.mp h]
              exact ⟨t, oi, oj, rfl, m2, hoim, hojm, .inl hne, hc⟩
          · have hne : oj ≠ none := fun z => hc2 (by rw [z]; rfl)
            refine ⟨.ref a, F, width, oi, oj, rfl, (fls ((st4.same s5).same s6)).mono hide_sub, (fun k h => hlt1 k (h ▸ hoim)), (fun k h => hlt2 k (h ▸ hojm)), _, rfl, ite2 (fun hc => ⟨by decide, fun t ht => ?_⟩) (fun hc => ⟨s6, acc, eD, hpa, by omega, hno (fun z => hc z.2)⟩)⟩
            have m1 : ∀ t' ys, H6 t' = some (.tup ys) → upd (upd H6 t (.tup [noV oi, noV oj])) D (.lst (acc ++ [.ref t])) t' = some (.tup ys) := fun t' ys e => tup_upd ((Same.new ht) _ _ eD) _ _ ((Same.new ht) _ _ e)
            have m2 : upd (upd H6 t (.tup [noV oi, noV oj])) D (.lst (acc ++ [.ref t])) t = some (.tup [noV oi, noV oj]) := tup_upd ((Same.new ht) _ _ eD) _ _ upd_same
            refine ⟨acc, (Same.new ht) _ _ eD, sz5' (by omega), (s6.trans (Same.new ht)).mut hD, acc ++ [.ref t], upd_same, fun z hz => ?_, by rw [List.length_append, List.length_singleton]; omega, fun _ _ _ => by simp⟩
            rcases List.mem_append.mp hz with h | h
            · exact (hpa z h).mono m1
            · rw [List.mem_singleton.mp h]
              exact ⟨t, oi, oj, rfl, m2, hoim, hojm, .inr hne, hc⟩
          · have hn1 : oi = none := noV_non (Decidable.of_not_not hc1)
            have hn2 : oj = none := noV_non (Decidable.of_not_not hc2)
            exact ⟨s6, acc, eD, hpa, by omega, hno (fun z => by rcases z.1 with h | h <;> contradiction)⟩
        · obtain ⟨s6, acc, eD, hpa, hal, hac⟩ := hP
          rw [List.length_map] at hal hac
          rw [List.take_length] at hac
          have n6 : ∀ z ∈ zq, PairOk F width wide os1 os2 H6 z := fun z hz => (hpair z hz).mono fun t ys e => s6 _ _ e
          have h101 : (m + 1) * 101 = m * 101 + 101 := by omega
          refine ⟨D, rfl, zq, s6 _ _ eq, acc, eD, sz5 (by omega), fun tq' htq' => ⟨_, _, tq', ⟨rfl, rfl, rfl⟩, (s5.trans s6).trans (Same.new htq'), _, upd_same, fun z hz => ?_, by rw [List.length_append]; omega, fun x hx y hy hc => ?_⟩⟩
          · refine PairOk.mono (fun t ys e => (Same.new htq') _ _ e) ?_
            rcases List.mem_append.mp hz with h | h
            · exact n6 z h
            · exact hpa z h
          · rw [take_snoc hoi] at hx
            intro hE
            obtain ⟨ha, hb⟩ := List.append_eq_nil_iff.mp hE
            rcases List.mem_append.mp hx with h | h
            · exact hall x h y hy hc ha
            · rw [List.mem_singleton.mp h] at hc
              exact hac y hy hc hb
      · rintro σ H5 ⟨b13', b14', tq, zq, rfl, s5, eq, hpair, hzl, hall⟩
        rw [List.length_map] at hzl hall
        rw [List.take_length] at hall
        (try simp only [cx_K, cx_w, rIn, rMulS, CwR.tReplC, tM1, tBM0, rPop, rExtend, rReverse, rLenS, rEqE, rNeE, rSetL, rIntI, rIntB, tBM, rAppend, rIxL, rIxT, rCat, rSlL, rSlS, gTup, tYes, wipe, tSeq, tAsg, tIfS, tRet, tRetN, tDrop, tNext, tBreak, tCont, tNever, tAug, ipI, tPar, tPar3, gName, gCons, gNil, gSub, tVar, tC, tOp, tUn, tIf, tAndV, tOrV, tNotV, tAnd, tOr, tNot, L2.tB, tTest, tCmp, tChain, tCB, tCons, tNil, tCall, tCallS, tTup, tLst, tSl, tPart, tNoPart, rI, rI0, rU, rEq, rNe, scal_ii, scal_ss, scal_bb, scal_nn, scal_is, scal_si, rIxS, S_len, S_cps, S_inj, L2.start, List.map_cons, List.map_nil, List.cons_append, List.nil_append, List.append_nil, List.getElem?_cons_zero, List.getElem?_cons_succ, List.set_cons_zero, List.set_cons_succ, List.length_cons, List.length_nil, Nat.reduceAdd, Nat.reduceSub, List.replicate_succ, List.replicate_zero, Option.some.injEq, V.int.injEq, V.str.injEq, V.bl.injEq, V.ref.injEq, List.cons.injEq, and_true, true_and, exists_eq_left, exists_eq_left', exists_and_left, exists_eq, exists_eq', decide_eq_true_eq, Bool.not_eq_true', decide_eq_false_iff_not, Bool.false_eq_true, if_false, if_true, reduceIte, ite_self, CMul, CPow, CDiv])
        have hne : zq ≠ [] := by
          obtain ⟨i0, j0, hi0, hj0, hn0, hl0⟩ := made_some hng
          refine hall i0 ?_ j0 ?_ ⟨hn0, hl0⟩
          · cases i0 with
            | none => exact hN1.non
            | some k =>
              have := hi0 k rfl
              obtain ⟨f, ef, _⟩ := id this
              exact hN1.all k (List.getElem?_eq_some_iff.mp ef).1 this
          · cases j0 with
            | none => exact hN2.non
            | some k =>
              have := hj0 k rfl
              obtain ⟨f, ef, _⟩ := id this
              exact hN2.all k (List.getElem?_eq_some_iff.mp ef).1 this
        have hzpos : 0 < zq.length := List.length_pos_iff.mpr hne
        have st5 := st4.same s5
        have nqP : tq ≠ Pa := fun z => by
          obtain ⟨pp, rr, epp, _⟩ := st5.pool
          rw [← z, eq] at epp
          have h0 := HO.lst.inj (Option.some.inj epp)
          obtain ⟨t, _, _, e, _⟩ := hpair (V.int (pp : Int)) (by rw [h0]; exact List.mem_cons_self)
          cases e
        refine ⟨Nat.zero_le _, fun q1 hq1 => ⟨zq, SqL.of ((Same.new hq1) _ _ eq), SqL.of upd_same, ifF (by rw [List.isEmpty_iff]; exact hne) ⟨zq, .inl (SqL.of ((Same.new hq1) _ _ eq)), Pa, _, rfl, (st5.new hq1).pool, by omega, fun k H6 k0 k1 st6 => ?_⟩⟩⟩
        obtain ⟨z, ez, hz⟩ := atI_mem (xs := zq) k0 k1
        obtain ⟨t, oi, oj, rfl, et, hoi, hoj, hC⟩ := hpair z hz
        have s51 : Same H5 (upd H5 q1 (.lst [])) := Same.new hq1
        have et6 := st6.tup (st5.new hq1).pool (s51 _ _ et)
        have st06 : Pst Pa H H6 := (st5.new hq1).trans st6
        have st46 : Pst Pa H4 H6 := ((Pst.refl st4.pool).same (s5.trans s51)).trans st6
        refine ⟨zq, k, rfl, SqL.of (st6.kp tq _ nqP (s51 _ _ eq)), _, ez, t, rfl, _, SqT.of et6, rfl, _, _, rfl, _, _, rfl, rfl, ?_⟩
        have ep6 : H6 p = some (.lst zs) := st46.kp p _ npP ep4
        have hps6 := hps4.mono (Pst.since hPne st46).hide
        have hF6 := (fls st06).mono hide_sub
        clear et6 et st46 s51 st6 hq1 hpair hall eq s5 st5 hzl hne nqP ez hz k0 k1 hzpos st4 hps4 ep4 e1 e2 etp
        refine ⟨_, rfl, _, rfl, (show 2 ≤ sizeLine by decide), fun q2 hq2 => ⟨q2, rfl, ⟨_, SqL.of upd_same⟩, fun D hD => lc_list (xs := [noV oi, noV oj]) (fun b H8 => Same (upd H6 q2 (.lst [noV oi, noV oj])) H8 ∧ H8 D = some (.lst (((([oi, oj].take b).flatMap (endsN F))).map V.int))) ⟨Same.new hD, upd_same⟩ (fun b H8 _ h => SqL.of (h.1 _ _ upd_same)) (fun b x H8 hx hP => ?_) (fun H8 hP => ?_)⟩⟩
        · obtain ⟨s8, e8⟩ := hP
          obtain ⟨o, ho, rfl⟩ : ∃ o, [oi, oj][b]? = some o ∧ noV o = x := by
            have hx : ([oi, oj].map noV)[b]? = some x := hx
            rw [List.getElem?_map] at hx
            exact Option.map_eq_some_iff.mp hx
          have hol : ∀ k, o = some k → k < F.length := fun k e => by
            have : o ∈ [oi, oj] := List.mem_of_getElem? ho
            rw [e] at this
            rcases List.mem_cons.mp this with h | h
            · exact hlt1 k (h ▸ hoi)
            · exact hlt2 k (List.mem_singleton.mp h ▸ hoj)
          have hb2 : b < 2 := (List.getElem?_eq_some_iff.mp ho).1
          have hel : (([oi, oj].take b).flatMap (endsN F)).length ≤ 2 := ends_len F oi oj b
          rw [take_snoc ho, List.flatMap_append, List.map_append]
          refine ⟨rfl, ?_⟩
          (try simp only [cx_K, cx_w, rIn, rMulS, CwR.tReplC, tM1, tBM0, rPop, rExtend, rReverse, rLenS, rEqE, rNeE, rSetL, rIntI, rIntB, tBM, rAppend, rIxL, rIxT, rCat, rSlL, rSlS, gTup, tYes, wipe, tSeq, tAsg, tIfS, tRet, tRetN, tDrop, tNext, tBreak, tCont, tNever, tAug, ipI, tPar, tPar3, gName, gCons, gNil, gSub, tVar, tC, tOp, tUn, tIf, tAndV, tOrV, tNotV, tAnd, tOr, tNot, L2.tB, tTest, tCmp, tChain, tCB, tCons, tNil, tCall, tCallS, tTup, tLst, tSl, tPart, tNoPart, rI, rI0, rU, rEq, rNe, scal_ii, scal_ss, scal_bb, scal_nn, scal_is, scal_si, rIxS, S_len, S_cps, S_inj, L2.start, List.map_cons, List.map_nil, List.cons_append, List.nil_append, List.append_nil, List.getElem?_cons_zero, List.getElem?_cons_succ, List.set_cons_zero, List.set_cons_succ, List.length_cons, List.length_nil, Nat.reduceAdd, Nat.reduceSub, List.replicate_succ, List.replicate_zero, Option.some.injEq, V.int.injEq, V.str.injEq, V.bl.injEq, V.ref.injEq, List.cons.injEq, and_true, true_and, exists_eq_left, exists_eq_left', exists_and_left, exists_eq, exists_eq', decide_eq_true_eq, Bool.not_eq_true', decide_eq_false_iff_not, Bool.false_eq_true, if_false, if_true, reduceIte, ite_self, CMul, CPow, CDiv])
          cases o with
          | none =>
            refine ifF (fun z => z rfl) ⟨s8, ?_⟩
            rw [e8]
            simp [endsN]
          | some k =>
            have hkl := hol k rfl
            have hf : F[k]? = some F[k] := List.getElem?_eq_getElem hkl
            obtain ⟨t', e', et'⟩ := fl_at hX hf
            have sg := hide_sub _ _ ((st06.kp.hide) _ _ et')
            have sa := hide_sub _ _ ((st06.kp.hide) _ _ ha)
            have s68 := (Same.new (o := .lst [noV oi, noV oj]) hq2).trans s8
            refine ifT (fun z => nomatch z) ⟨xs, (k : Int), rfl, SqL.of (s68 _ _ sa), _, at_nat e', t', rfl, _, SqT.of (s68 _ _ sg), _, at_nat (i := 4) rfl, _, e8, by rw [List.length_map]; exact sz5' (by omega), s8.mut hD, ?_⟩
            rw [upd_same]
            simp [endsN, hf]
        · obtain ⟨s8, e8⟩ := hP
          have e8 : H8 D = some (.lst ((endsN F oi ++ (endsN F oj ++ [])).map V.int)) := e8
          have s68 := (Same.new (o := .lst [noV oi, noV oj]) hq2).trans s8
          have hel : (endsN F oi ++ (endsN F oj ++ [])).length ≤ 2 := ends_len F oi oj 2
          refine ⟨by decide, fun q3 hq3 => ⟨D, rfl, _, (Same.new hq3) _ _ e8, _, upd_same, by rw [List.length_map]; exact sz5 (by simp at hel ⊢; omega), fun q4 hq4 => ⟨q4, (endsN F oi ++ (endsN F oj ++ [])) ++ [r], rfl, SqL.of (by rw [upd_same, List.map_append (l₂ := [r])]; rfl), by rw [List.length_append]; exact Nat.succ_pos _, fun e hem hemin => ?_⟩⟩⟩
          have st09 := ((st06.same s68).new (o := .lst [V.int r]) hq3).new (o := .lst ((endsN F oi ++ (endsN F oj ++ [])).map V.int ++ [V.int r])) hq4
          have st69 := ((((Pst.refl st06.pool).same s68).new (o := .lst [V.int r]) hq3).new (o := .lst ((endsN F oi ++ (endsN F oj ++ [])).map V.int ++ [V.int r])) hq4)
          generalize upd (upd H8 q3 (.lst [V.int r])) q4 (.lst ((endsN F oi ++ (endsN F oj ++ [])).map V.int ++ [V.int r])) = H9 at *
          have hend : ∀ k f, (oi = some k ∨ oj = some k) → F[k]? = some f → f.b ∈ (endsN F oi ++ (endsN F oj ++ [])) ++ [r] := fun k f hk hf => by
            have : f.b ∈ endsN F (some k) := by simp [endsN, hf]
            rcases hk with h | h
            · rw [h]
              exact List.mem_append_left _ (List.mem_append_left _ this)
            · rw [h]
              exact List.mem_append_left _ (List.mem_append_right _ (List.mem_append_left _ this))
          have hsp : ∀ k f, (oi = some k ∨ oj = some k) → F[k]? = some f → e ≤ f.b := fun k f hk hf => hemin _ (hend k f hk hf)
          have hcases : e = r ∨ ∃ k f, (oi = some k ∨ oj = some k) ∧ F[k]? = some f ∧ e = f.b := by
            have go : ∀ o, e ∈ endsN F o → ∃ k f, o = some k ∧ F[k]? = some f ∧ e = f.b := fun o h => by
              unfold endsN at h
              split at h
              · cases h
              · rename_i k
                split at h
                · rename_i f hf
                  exact ⟨k, f, rfl, hf, List.mem_singleton.mp h⟩
                · cases h
            rcases List.mem_append.mp hem with h | h
            · rcases List.mem_append.mp h with h | h
              · obtain ⟨k, f, h1, h2, h3⟩ := go oi h
                exact .inr ⟨k, f, .inl h1, h2, h3⟩
              · rcases List.mem_append.mp h with h | h
                · obtain ⟨k, f, h1, h2, h3⟩ := go oj h
                  exact .inr ⟨k, f, .inr h1, h2, h3⟩
                · cases h
            · exact .inl (List.mem_singleton.mp h)
          have hi1 : ∀ k, oi = some k → isNum' F width true row k := fun k h => hN1.num k (h ▸ hoi)
          have hj1 : ∀ k, oj = some k → isNum' F width false row k := fun k h => hN2.num k (h ▸ hoj)
          have hrowe : row < e := by
            rcases hcases with h | ⟨k, f, hk, hf, h⟩
            · omega
            · rcases hk with hk | hk
              · obtain ⟨f', e1, _, c, _⟩ := hi1 k hk
                rw [hf] at e1
                have := c.2
                rw [← Option.some.inj e1] at this
                omega
              · obtain ⟨f', e1, _, c, _⟩ := hj1 k hk
                rw [hf] at e1
                have := c.2
                rw [← Option.some.inj e1] at this
                omega
          have her : e ≤ r := hemin r (by simp)
          have hmeas : e = r ∨ ((i + 1 : Nat) : Int) + cnt F e + (20 - cuts) ≤ F.length + 20 := by
            rcases hcases with h | ⟨k, f, hk, hf, h⟩
            · exact .inl h
            · have := cnt_lt (F := F) hrowe ⟨f, List.mem_of_getElem? hf, h.symm⟩
              exact .inr (by omega)
          have hzl := hps6.length
          rw [List.length_map] at hzl
          have ep9 : H9 p = some (.lst zs) := st69.kp p _ npP ep6
          have fin : ∀ (e' : Int) (H' : Hp), Pst Pa H9 H' → row < e' → e' ≤ e → ∀ t, H' t = none → upd H' t (.tup [.int row, .int e', noV oi, noV oj]) p = some (.lst zs) ∧ zs.length < sizeLine ∧ Pst Pa H (upd (upd H' t (.tup [.int row, .int e', noV oi, noV oj])) p (.lst (zs ++ [.ref t]))) ∧
              Reps (hide [p] (since H (upd (upd H' t (.tup [.int row, .int e', noV oi, noV oj])) p (.lst (zs ++ [.ref t]))))) ((ps ++ [(⟨row, e', oi, oj⟩ : Stp)]).map stpD) (zs ++ [.ref t]) ∧ runD F width wide st ((ps ++ [(⟨row, e', oi, oj⟩ : Stp)]).map stpD) = some e' := fun e' H' st' h1 h2 t ht => by
            have s1' := st69.trans st'
            refine ⟨(Same.new ht) _ _ (st'.kp p _ npP ep9), sz5' (by omega), ((st09.trans st').new ht).mut hp npP, ?_, ?_⟩
            · rw [List.map_append]
              exact own_app hPne st06 s1' ⟨_, ep6⟩ npP ht hps6 ⟨_, _, rfl, rfl, _, _, rfl, rfl, _, _, rfl, rep_opt _, _, _, rfl, rep_opt _, rfl⟩
            · rw [List.map_append, show [(⟨row, e', oi, oj⟩ : Stp)].map stpD = [stpD ⟨row, e', oi, oj⟩] from rfl, run_snoc _ _ _ _ hrun]
              exact str_good (made_good hi1 hj1 hC.1 hC.2 h1 (fun k f hk hf => Int.le_trans h2 (hsp k f (.inl hk) hf)) (fun k f hk hf => Int.le_trans h2 (hsp k f (.inr hk) hf)))
          have hpl : ∀ {x : Stp}, (ps ++ [x]).length ≤ i + 1 := by
            intro x
            rw [List.length_append, List.length_singleton]
            omega
          refine ite2 (fun hcu => ⟨e, rfl, ite2 (fun hbig => ⟨Pa, 3, rfl, st09.pool, by decide, fun k3 H10 _ _ st10 => ⟨rfl, ite2 (fun _ => ⟨Pa, 200000, rfl, st10.pool, by decide, fun x3 H11 x30 x31 st11 => ⟨x3, rfl, e, rfl, by omega, _, _, ⟨rfl, rfl⟩, ?_⟩⟩) (fun _ => ?_)⟩⟩) (fun _ => ?_)⟩) (fun _ => ?_)
          · have m0 := Int.emod_nonneg x3 (show e - row - 1 ≠ 0 by omega)
            have m1 := Int.emod_lt_of_pos x3 (show 0 < e - row - 1 by omega)
            have st' := st10.trans st11
            refine ⟨.inl ⟨rfl, _, SqL.of (st'.kp p _ npP ep9)⟩, by decide, fun t ht => ?_⟩
            obtain ⟨f1, f2, f3, f4, f5⟩ := fin (row + 1 + x3 % (e - row - 1)) H11 st' (by omega) (by omega) t ht
            refine ⟨zs, f1, f2, _, _, _, _, _, _, _, _, _, _, _, _, ⟨rfl, rfl, rfl, rfl, rfl, rfl, rfl, rfl, rfl, rfl⟩, f3, upd_same, f4, f5, hpl, by omega, by omega, by omega, by omega, .inr ?_⟩
            have := cnt_mono (F := F) (r := row) (s := row + 1 + x3 % (e - row - 1)) (by omega)
            omega
          · refine ⟨.inl ⟨rfl, _, SqL.of (st10.kp p _ npP ep9)⟩, by decide, fun t ht => ?_⟩
            obtain ⟨f1, f2, f3, f4, f5⟩ := fin e H10 st10 hrowe (Int.le_refl _) t ht
            exact ⟨zs, f1, f2, _, _, _, _, _, _, _, _, _, _, _, _, ⟨rfl, rfl, rfl, rfl, rfl, rfl, rfl, rfl, rfl, rfl⟩, f3, upd_same, f4, f5, hpl, by omega, by omega, by omega, by omega, hmeas⟩
          · refine ⟨.inl ⟨rfl, _, SqL.of ep9⟩, by decide, fun t ht => ?_⟩
            obtain ⟨f1, f2, f3, f4, f5⟩ := fin e H9 (Pst.refl st09.pool) hrowe (Int.le_refl _) t ht
            exact ⟨zs, f1, f2, _, _, _, _, _, _, _, _, _, _, _, _, ⟨rfl, rfl, rfl, rfl, rfl, rfl, rfl, rfl, rfl, rfl⟩, f3, upd_same, f4, f5, hpl, by omega, by omega, by omega, by omega, hmeas⟩
          · refine ⟨.inl ⟨rfl, _, SqL.of ep9⟩, by decide, fun t ht => ?_⟩
            obtain ⟨f1, f2, f3, f4, f5⟩ := fin e H9 (Pst.refl st09.pool) hrowe (Int.le_refl _) t ht
            exact ⟨zs, f1, f2, _, _, _, _, _, _, _, _, _, _, _, _, ⟨rfl, rfl, rfl, rfl, rfl, rfl, rfl, rfl, rfl, rfl⟩, f3, upd_same, f4, f5, hpl, by omega, by omega, by omega, by omega, hmeas⟩
    · rintro σ H1 ⟨ps, zs, row, cuts, b9, b10, b11, b12, b13, b14, b15, b16, rfl, st1, ep, hps, hrun, hlen, hr0, hr1, hc0, hc1, hmes⟩
      (try simp only [cx_K, cx_w, rIn, rMulS, CwR.tReplC, tM1, tBM0, rPop, rExtend, rReverse, rLenS, rEqE, rNeE, rSetL, rIntI, rIntB, tBM, rAppend, rIxL, rIxT, rCat, rSlL, rSlS, gTup, tYes, wipe, tSeq, tAsg, tIfS, tRet, tRetN, tDrop, tNext, tBreak, tCont, tNever, tAug, ipI, tPar, tPar3, gName, gCons, gNil, gSub, tVar, tC, tOp, tUn, tIf, tAndV, tOrV, tNotV, tAnd, tOr, tNot, L2.tB, tTest, tCmp, tChain, tCB, tCons, tNil, tCall, tCallS, tTup, tLst, tSl, tPart, tNoPart, rI, rI0, rU, rEq, rNe, scal_ii, scal_ss, scal_bb, scal_nn, scal_is, scal_si, rIxS, S_len, S_cps, S_inj, L2.start, List.map_cons, List.map_nil, List.cons_append, List.nil_append, List.append_nil, List.getElem?_cons_zero, List.getElem?_cons_succ, List.set_cons_zero, List.set_cons_succ, List.length_cons, List.length_nil, Nat.reduceAdd, Nat.reduceSub, List.replicate_succ, List.replicate_zero, Option.some.injEq, V.int.injEq, V.str.injEq, V.bl.injEq, V.ref.injEq, List.cons.injEq, and_true, true_and, exists_eq_left, exists_eq_left', exists_and_left, exists_eq, exists_eq', decide_eq_true_eq, Bool.not_eq_true', decide_eq_false_iff_not, Bool.false_eq_true, if_false, if_true, reduceIte, ite_self, CMul, CPow, CDiv])
      have he : row = r := by
        rcases hmes with h | h
        · exact h
        · have : (((300 : Int).toNat : Nat) : Int) = 300 := by decide
          omega
      subst he
      exact q ps p zs H1 hrun hlen st1 hp ep hps
end
end K92


namespace KB
open PySem PySem.Spec PyProof.Rows L2
theorem op_neEK {X : Cx} {K : PySem.W.Frag} (h : X.K = K) (hu : X.A.units < cLine) : OpR X (compareOp .NotEq) (rNeE K) := h ▸ op_neE hu
/-- bool of an int, of None -/
def rBoolN : List V → Hp → VK → Prop := fun xs H Q => ∃ x, xs = [x] ∧ ((∃ i, x = .int i ∧ Q (.bl (i != 0)) H) ∨ (x = .non ∧ Q (.bl false) H))
theorem call_boolN {X : Cx} : CallR X (.type "bool") rBoolN := by
  intro pins s σ H xs us Q I r h
  obtain ⟨x, rfl, h⟩ := h
  rcases h with ⟨i, rfl, q⟩ | ⟨rfl, q⟩
  · exact call_bool1 pins s σ H _ us Q I r (.inl ⟨i, rfl, q⟩)
  · obtain ⟨u, rfl, r1⟩ := vals1 r
    cases r1
    exact call_bool_none ⟨.bl false, H, I, rfl, q⟩
def rStrN : List V → Hp → VK → Prop := fun xs H Q => ∃ i : Int, xs = [.int i] ∧ i.natAbs.log2 < 1920 ∧ Q (.str (Str.ofString (toString i))) H
theorem call_strN {X : Cx} : CallR X (.type "str") rStrN := call_str_int
def rTupOf (K : PySem.W.Frag) (xs : List V) (H : Hp) (Q : VK) : Prop := ∃ p ys, xs = [.ref p] ∧ ((SqL K H p ys ∧ ∀ l, H l = none → Q (.ref l) (upd H l (.tup ys))) ∨ (SqT K H p ys ∧ Q (.ref p) H))
def rLstOf (K : PySem.W.Frag) (xs : List V) (H : Hp) (Q : VK) : Prop := ∃ p ys, xs = [.ref p] ∧ (SqL K H p ys ∨ SqT K H p ys) ∧ ∀ l, H l = none → Q (.ref l) (upd H l (.lst ys))
theorem call_tupN {X : Cx} : CallR X (.type "tuple") (rTupOf X.K) := call_tuple_of
theorem call_lstN {X : Cx} : CallR X (.type "list") (rLstOf X.K) := call_list_of
def rMaxN : List V → Hp → VK → Prop := fun xs H Q => ∃ i j, xs = [.int i, .int j] ∧ Q (.int (if j > i then j else i)) H
theorem call_maxN {X : Cx} (hc : X.calm = true) : CallR X (.builtin "max") rMaxN := call_max2 hc
end KB
namespace K92
open PySem PySem.Spec PyProof.Rows L2 KB
def RepOs (G : Hp) : List (Option D) → List V → Prop
  | [], xs => xs = []
  | d :: ds, xs => ∃ x r, xs = x :: r ∧ RepO G d x ∧ RepOs G ds r
theorem RepOs.mono {G G' : Hp} (h : Same G G') : ∀ {ds : List (Option D)} {xs : List V}, RepOs G ds xs → RepOs G' ds xs
  | [], _, e => e
  | _ :: _, _, ⟨x, r, e, e1, e2⟩ => ⟨x, r, e, RepO.mono h e1, RepOs.mono h e2⟩
theorem RepOs.length {G : Hp} : ∀ {ds : List (Option D)} {xs : List V}, RepOs G ds xs → xs.length = ds.length
  | [], _, e => by
    have e : _ = [] := e
    rw [e]
    rfl
  | _ :: _, _, ⟨x, r, e, _, e2⟩ => by
    rw [e, List.length_cons, List.length_cons, RepOs.length e2]
theorem RepOs.get {G : Hp} : ∀ {ds : List (Option D)} {xs : List V} {i : Nat} {x : V}, RepOs G ds xs → xs[i]? = some x → ∃ d, ds[i]? = some d ∧ RepO G d x
  | [], _, i, x, e, h => by
    have e : _ = [] := e
    rw [e] at h
    cases h
  | d :: _, _, 0, x, ⟨y, r, e, e1, _⟩, h => by
    rw [e] at h
    have h : y = x := Option.some.inj h
    exact ⟨d, rfl, h ▸ e1⟩
  | d :: ds, _, i + 1, x, ⟨y, r, e, _, e2⟩, h => by
    rw [e] at h
    exact RepOs.get (i := i) e2 h
/-- a new thing is not the pool -/
theorem new_ne {Pa p : Addr} {H0 H : Hp} (hP : H0 Pa ≠ none) (s : Same H0 H) (hp : H p = none) : p ≠ Pa := fun e => by
  cases h : H0 Pa with
  | none => exact hP h
  | some o =>
    have := s _ _ h
    rw [← e, hp] at this
    cases this
theorem hide_new {Pa p : Addr} {H : Hp} {o : HO} (n : p ≠ Pa) : hide [Pa] (upd H p o) p = some o := hide_some.mpr ⟨by simp [n], upd_same⟩
/-- the term tells new data d, whatever the heap (that has grown from H0) -/
def Give (Pa : Addr) (σ : L2.St) (H0 : Hp) (te : TE) (d : D) : Prop := ∀ (H : Hp) (Q : VK), Same H0 H → (∀ x H', Same H H' → Rep (hide [Pa] H') d x → Q x H') → te σ H Q
def GiveA (Pa : Addr) (σ : L2.St) (H0 : Hp) (ta : TA) (ds : List D) : Prop := ∀ (H : Hp) (Q : List V → Hp → Prop), Same H0 H → (∀ xs H', Same H H' → Reps (hide [Pa] H') ds xs → Q xs H') → ta σ H Q
def GiveO (Pa : Addr) (σ : L2.St) (H0 : Hp) (te : TE) (d : Option D) : Prop := ∀ (H : Hp) (Q : VK), Same H0 H → (∀ x H', Same H H' → RepO (hide [Pa] H') d x → Q x H') → te σ H Q
def GiveAO (Pa : Addr) (σ : L2.St) (H0 : Hp) (ta : TA) (ds : List (Option D)) : Prop := ∀ (H : Hp) (Q : List V → Hp → Prop), Same H0 H → (∀ xs H', Same H H' → RepOs (hide [Pa] H') ds xs → Q xs H') → ta σ H Q
section
variable {Pa : Addr} {σ : L2.St} {H0 : Hp}
theorem give_non : Give Pa σ H0 (tC .non) .non := fun H Q s q => q _ H (Same.refl H) rfl
theorem give_int {i : Int} : Give Pa σ H0 (tC (.int i)) (.int i) := fun H Q s q => q _ H (Same.refl H) rfl
theorem give_bl {b : Bool} : Give Pa σ H0 (tC (.bl b)) (.bl b) := fun H Q s q => q _ H (Same.refl H) rfl
theorem give_str {x : Str} : Give Pa σ H0 (tC (.str x)) (.str x.cps.toList) := fun H Q s q => q _ H (Same.refl H) (show V.str x = V.str (S x.cps.toList) by cases x; simp)
theorem give_var {i : Nat} {v : V} {d : D} (h : σ[i]? = some (some v)) (r : Rep (hide [Pa] H0) d v) : Give Pa σ H0 (tVar i) d := fun H Q s q => ⟨v, h, q v H (Same.refl H) (r.mono s.hide)⟩
theorem gives_nil : GiveA Pa σ H0 tNil [] := fun H Q s q => q [] H (Same.refl H) rfl
theorem gives_cons {te : TE} {ta : TA} {d : D} {ds : List D} (h : Give Pa σ H0 te d) (g : GiveA Pa σ H0 ta ds) : GiveA Pa σ H0 (tCons te ta) (d :: ds) := fun H Q s q =>
  h H _ s fun x H1 s1 r1 => g H1 _ (s.trans s1) fun xs H2 s2 r2 => q (x :: xs) H2 (s1.trans s2) ⟨x, xs, rfl, r1.mono s2.hide, r2⟩
theorem len_small {α : Type} {ds : List α} (h : Nat.ble ds.length 1000 = true) : ds.length ≤ sizeLine := sz5 (Nat.le_trans (Nat.le_of_ble_eq_true h) (by decide))
theorem give_tup {ta : TA} {ds : List D} (hP : H0 Pa ≠ none) (g : GiveA Pa σ H0 ta ds) (hl : ds.length ≤ sizeLine) : Give Pa σ H0 (tTup ta) (.tup ds) := fun H Q s q =>
  g H _ s fun xs H1 s1 r1 => ⟨by rw [r1.length]; exact hl, fun p hp => q _ _ (s1.trans (Same.new hp)) ⟨p, xs, rfl, hide_new (new_ne hP (s.trans s1) hp), r1.mono (Same.new hp).hide⟩⟩
theorem give_lst {ta : TA} {ds : List D} (hP : H0 Pa ≠ none) (g : GiveA Pa σ H0 ta ds) (hl : ds.length ≤ sizeLine) : Give Pa σ H0 (tLst ta) (.lst ds) := fun H Q s q =>
  g H _ s fun xs H1 s1 r1 => ⟨by rw [r1.length]; exact hl, fun p hp => q _ _ (s1.trans (Same.new hp)) ⟨p, xs, rfl, hide_new (new_ne hP (s.trans s1) hp), r1.mono (Same.new hp).hide⟩⟩
theorem give_add {a b : TE} {i j : Int} (ha : Give Pa σ H0 a (.int i)) (hb : Give Pa σ H0 b (.int j)) : Give Pa σ H0 (tOp (rI0 fun i j => V.int (i + j)) a b) (.int (i + j)) := fun H Q s q =>
  ha H _ s fun x H1 s1 r1 => hb H1 _ (s.trans s1) fun y H2 s2 r2 => ⟨i, j, r1, r2, q _ H2 (s1.trans s2) rfl⟩
theorem give_sub {a b : TE} {i j : Int} (ha : Give Pa σ H0 a (.int i)) (hb : Give Pa σ H0 b (.int j)) : Give Pa σ H0 (tOp (rI0 fun i j => V.int (i - j)) a b) (.int (i - j)) := fun H Q s q =>
  ha H _ s fun x H1 s1 r1 => hb H1 _ (s.trans s1) fun y H2 s2 r2 => ⟨i, j, r1, r2, q _ H2 (s1.trans s2) rfl⟩
def boolD : D → Bool
  | .int i => i != 0
  | _ => false
def isIN : D → Bool
  | .int _ => true
  | .non => true
  | _ => false
theorem give_bool {ta : TA} {d : D} (g : GiveA Pa σ H0 ta [d]) (h : isIN d = true) : Give Pa σ H0 (tCB rBoolN ta) (.bl (boolD d)) := fun H Q s q =>
  g H _ s fun xs H1 s1 r1 => by
    obtain ⟨x, _, rfl, r, rfl⟩ := r1
    refine ⟨x, rfl, ?_⟩
    cases d with
    | int i =>
      have r : x = .int i := r
      exact .inl ⟨i, r, q _ H1 s1 rfl⟩
    | non => exact .inr ⟨r, q _ H1 s1 rfl⟩
    | _ => cases h
theorem give_strI {ta : TA} {i : Int} (g : GiveA Pa σ H0 ta [.int i]) (h : i.natAbs.log2 < 1920) : Give Pa σ H0 (tCB rStrN ta) (.str (Str.ofString (toString i)).cps.toList) := fun H Q s q =>
  g H _ s fun xs H1 s1 r1 => by
    obtain ⟨x, _, rfl, r, rfl⟩ := r1
    have r : x = .int i := r
    subst r
    exact ⟨i, rfl, h, q _ H1 s1 (show V.str (Str.ofString (toString i)) = V.str (S (Str.ofString (toString i)).cps.toList) by cases Str.ofString (toString i); simp)⟩
theorem give_max {ta : TA} {i j : Int} (g : GiveA Pa σ H0 ta [.int i, .int j]) : Give Pa σ H0 (tCB rMaxN ta) (.int (if j > i then j else i)) := fun H Q s q =>
  g H _ s fun xs H1 s1 r1 => by
    obtain ⟨x, _, rfl, rx, y, _, rfl, ry, rfl⟩ := r1
    have rx : x = .int i := rx
    have ry : y = .int j := ry
    subst rx ry
    exact ⟨i, j, rfl, q _ H1 s1 rfl⟩
theorem give_some {te : TE} {d : D} (h : Give Pa σ H0 te d) : GiveO Pa σ H0 te (some d) := h
theorem give_dict (hP : H0 Pa ≠ none) : GiveO Pa σ H0 tDNewK none := fun H Q s q p hp => q _ _ (Same.new hp) ⟨p, rfl, hide_new (new_ne hP s hp)⟩
theorem givesO_nil : GiveAO Pa σ H0 tNil [] := fun H Q s q => q [] H (Same.refl H) rfl
theorem givesO_cons {te : TE} {ta : TA} {d : Option D} {ds : List (Option D)} (h : GiveO Pa σ H0 te d) (g : GiveAO Pa σ H0 ta ds) : GiveAO Pa σ H0 (tCons te ta) (d :: ds) := fun H Q s q =>
  h H _ s fun x H1 s1 r1 => g H1 _ (s.trans s1) fun xs H2 s2 r2 => q (x :: xs) H2 (s1.trans s2) ⟨x, xs, rfl, r1.mono s2.hide, r2⟩
section
variable {K : PySem.W.Frag}
theorem give_tupOf {ta : TA} {ds : List D} (hP : H0 Pa ≠ none) (g : GiveA Pa σ H0 ta [.lst ds]) : Give Pa σ H0 (tCB (rTupOf K) ta) (.tup ds) := fun H Q s q =>
  g H _ s fun xs H1 s1 r1 => by
    obtain ⟨x, _, rfl, ⟨a, ys, rfl, ha, hr⟩, rfl⟩ := r1
    exact ⟨a, ys, rfl, .inl ⟨SqL.of (hide_sub _ _ ha), fun l hl => q _ _ (s1.trans (Same.new hl)) ⟨l, ys, rfl, hide_new (new_ne hP (s.trans s1) hl), hr.mono (Same.new hl).hide⟩⟩⟩
theorem give_listOf {ta : TA} {ds : List D} (hP : H0 Pa ≠ none) (g : GiveA Pa σ H0 ta [.tup ds]) : Give Pa σ H0 (tCB (rLstOf K) ta) (.lst ds) := fun H Q s q =>
  g H _ s fun xs H1 s1 r1 => by
    obtain ⟨x, _, rfl, ⟨a, ys, rfl, ha, hr⟩, rfl⟩ := r1
    exact ⟨a, ys, rfl, .inr (SqT.of (hide_sub _ _ ha)), fun l hl => q _ _ (s1.trans (Same.new hl)) ⟨l, ys, rfl, hide_new (new_ne hP (s.trans s1) hl), hr.mono (Same.new hl).hide⟩⟩
theorem give_ixL {i : Nat} {a : Addr} {xs : List V} {j : Int} {v : V} {d : D} (hs : σ[i]? = some (some (.ref a))) (ha : H0 a = some (.lst xs)) (hx : atI xs j = some v) (r : Rep (hide [Pa] H0) d v) : Give Pa σ H0 (tOp (rIxL K) (tVar i) (tC (.int j))) d := fun H Q s q =>
  ⟨_, hs, a, xs, j, v, rfl, rfl, SqL.of (s _ _ ha), hx, q v H (Same.refl H) (r.mono s.hide)⟩
theorem give_cat {a b : TE} {as bs : List D} (hP : H0 Pa ≠ none) (ha : Give Pa σ H0 a (.lst as)) (hb : Give Pa σ H0 b (.lst bs)) (hz : as.length + bs.length ≤ sizeLine) : Give Pa σ H0 (tOp rCat a b) (.lst (as ++ bs)) := fun H Q s q =>
  ha H _ s fun x H1 s1 r1 => hb H1 _ (s.trans s1) fun y H2 s2 r2 => by
    obtain ⟨a1, xs, rfl, e1, h1⟩ := r1
    obtain ⟨a2, ys, rfl, e2, h2⟩ := r2
    refine ⟨a1, a2, xs, ys, rfl, rfl, s2 _ _ (hide_sub _ _ e1), hide_sub _ _ e2, by rw [h1.length, h2.length]; exact hz, fun p hp => q _ _ ((s1.trans s2).trans (Same.new hp)) ⟨p, _, rfl, hide_new (new_ne hP ((s.trans s1).trans s2) hp), ((h1.mono s2.hide).append h2).mono (Same.new hp).hide⟩⟩
/-- one of the items of a display, by a pick -/
theorem ret_pick {ta : TA} {os : List (Option D)} {n : Nat} {k : Int} {Q : VK} {H : Hp} (g : GiveAO Pa σ H0 ta os) (hs : σ[0]? = some (some (.ref Pa))) (hP : PoolAt Pa H) (s0 : Same H0 H) (hn : os.length = n) (hk : k = (n : Nat)) (h0 : 0 < n) (h1 : n ≤ 1000)
    (q : ∀ o x H', o ∈ os → Pst Pa H H' → RepO (hide [Pa] H') o x → Q x H') : tOp (rIxL K) (tLst ta) (tCall spPick [] E0 (tCons (tVar 0) (tCons (tC (.int k)) tNil))) σ H Q := by
  refine g H _ s0 fun xs H1 s1 r1 => ⟨by rw [r1.length]; exact sz5 (by omega), fun p hp => ?_⟩
  have st : Pst Pa H H1 := (Pst.refl hP).same s1
  have hl := r1.length
  refine ⟨_, hs, Pa, k, rfl, (st.new hp).pool, by omega, fun r H2 r0 r1' st2 => ?_⟩
  have ep : H2 p = some (.lst xs) := st2.kp p _ (st.ne hp) upd_same
  obtain ⟨m, rfl⟩ := Int.eq_ofNat_of_zero_le r0
  have hm : m < xs.length := by omega
  obtain ⟨o, ho, hr⟩ := r1.get (List.getElem?_eq_getElem hm)
  exact ⟨p, xs, m, _, rfl, rfl, SqL.of ep, at_nat (List.getElem?_eq_getElem hm), q o _ H2 (List.mem_of_getElem? ho) ((st.new hp).trans st2) (hr.mono (((Pst.refl st.pool).new hp).trans st2).kp.hide)⟩
end
end
/-- one of the items of a display, by a number at hand -/
theorem ret_at {K : PySem.W.Frag} {Pa : Addr} {σ : L2.St} {H0 : Hp} {ta : TA} {os : List (Option D)} {n i : Nat} {k : Int} {Q : VK} {H : Hp} (g : GiveAO Pa σ H0 ta os) (hs : σ[i]? = some (some (.int k))) (hP : H0 Pa ≠ none) (s0 : Same H0 H) (hn : os.length = n) (h0 : 0 ≤ k) (h1 : k < (n : Nat)) (h2 : n ≤ 1000)
    (q : ∀ o x H', o ∈ os → Same H H' → RepO (hide [Pa] H') o x → Q x H') : tOp (rIxL K) (tLst ta) (tVar i) σ H Q := by
  refine g H _ s0 fun xs H1 s1 r1 => ⟨by rw [r1.length]; exact sz5 (by omega), fun p hp => ?_⟩
  have hl := r1.length
  obtain ⟨m, rfl⟩ := Int.eq_ofNat_of_zero_le h0
  have hm : m < xs.length := by omega
  obtain ⟨o, ho, hr⟩ := r1.get (List.getElem?_eq_getElem hm)
  exact ⟨_, hs, p, xs, m, _, rfl, rfl, SqL.of upd_same, at_nat (List.getElem?_eq_getElem hm), q o _ _ (List.mem_of_getElem? ho) (s1.trans (Same.new hp)) (hr.mono (Same.new hp).hide)⟩
/-! ### small data -/
mutual
def smD : Nat → D → Bool
  | _, .non => true
  | _, .bl _ => true
  | _, .int i => decide (i.natAbs < 1000000000000)
  | _, .str l => decide (l.length ≤ 20) && l.all fun c => decide (c < 1114112)
  | 0, .tup _ => false
  | 0, .lst _ => false
  | n + 1, .tup ds => smDs n ds
  | n + 1, .lst ds => smDs n ds
def smDs : Nat → List D → Bool
  | _, [] => true
  | n, d :: ds => smD n d && smDs n ds
end
end K92


namespace K92
open PySem PySem.Spec PyProof.Rows L2 KB
theorem seq1_abs {A R : TS} {D : Ends} {σ : L2.St} {H : Hp} (G : L2.St → Hp → Prop) (h2 : ∀ R' : TS, (∀ σ H, G σ H → R' D σ H) → tSeq A R' D σ H) (h1 : ∀ σ H, G σ H → R D σ H) : tSeq A R D σ H := h2 R h1
theorem seq2_abs {A B R : TS} {D : Ends} {σ : L2.St} {H : Hp} (G : L2.St → Hp → Prop) (h2 : ∀ R' : TS, (∀ σ H, G σ H → R' D σ H) → tSeq A (tSeq B R') D σ H) (h1 : ∀ σ H, G σ H → R D σ H) : tSeq A (tSeq B R) D σ H := h2 R h1
theorem seq3_abs {A B C R : TS} {D : Ends} {σ : L2.St} {H : Hp} (G : L2.St → Hp → Prop) (h2 : ∀ R' : TS, (∀ σ H, G σ H → R' D σ H) → tSeq A (tSeq B (tSeq C R')) D σ H) (h1 : ∀ σ H, G σ H → R D σ H) : tSeq A (tSeq B (tSeq C R)) D σ H := h2 R h1
section
variable {P : Program} {w : World} {K : PySem.W.Frag} {mg : Str → Option Value} {base : Heap}
def spOther : Sp := fun vs H Q _ => ∃ Pa tp x y, vs = [.ref Pa, .ref tp] ∧ PoolAt Pa H ∧ H tp = some (.tup [.int x, .int y]) ∧ ∀ o v H', isPlace x y o = false → Pst Pa H H' → RepO (hide [Pa] H') o v → Q v H'
theorem okOther (T : Top K w mg) : Ok P w K mg base CX0 2 "_law_other_place" ["pool", "place"] spOther := by
  have GLawPick : Ok P w K mg base CX0 1 "_law_pick" ["pool", "many"] spPick := okPick T
  have m_bool := T.m_bool
  refine mkOk T.f__law_other_place scLawOtherPlace (fun vs H Q E h => ?_) (fun f cdv A outer s H vs Q E hr h => ?_)
  · obtain ⟨_, _, _, _, rfl, _⟩ := h
    rfl
  · obtain ⟨Pa, tp, x, y, rfl, hP, hp, q⟩ := h
    refine ⟨_, pss_cons (ps_asg (pv 1) (pg_tup (n := 2) rfl (pgs_cons (pg_name (i := 2) scLawOtherPlace.nd rfl (Or.inl rfl)) (pgs_cons (pg_name (i := 3) scLawOtherPlace.nd rfl (Or.inl rfl)) pgs_nil))))
  (pss_one (ps_ret (pe_ix ix_list (pe_lst (pa_cons (pe_tup (pa_cons (pe_op op_add (pv 2) (pe_int)) (pa_cons (pv 3) pa_nil))) (pa_cons (pe_tup (pa_cons (pe_op op_sub (pv 2) (pe_int)) (pa_cons (pv 3) pa_nil))) (pa_cons (pe_tup (pa_cons (pv 2) (pa_cons (pe_op op_add (pv 3) (pe_int)) pa_nil))) (pa_cons (pe_tup (pa_cons (pv 2) (pa_cons (pe_op op_sub (pv 3) (pe_int)) pa_nil))) (pa_cons (pe_lst (pa_cons (pv 2) (pa_cons (pv 3) pa_nil))) (pa_cons (pe_tup (pa_cons (pv 2) (pa_cons (pv 3) (pa_cons (pe_int) pa_nil)))) (pa_cons (pe_tup (pa_cons (pv 2) pa_nil)) (pa_cons (pe_non) (pa_cons (pv 2) (pa_cons (pe_str) (pa_cons (pe_tup (pa_cons (pe_non) (pa_cons (pv 3) pa_nil))) (pa_cons (pe_tup (pa_cons (pv 2) (pa_cons (pe_non) pa_nil))) (pa_cons (pe_tup (pa_cons (pe_callTy call_boolN (by rfl) m_bool (by decide +kernel) (pa_cons (pv 2) pa_nil)) (pa_cons (pv 3) pa_nil))) (pa_cons (pe_tup (pa_cons (pv 2) (pa_cons (pe_callTy call_boolN (by rfl) m_bool (by decide +kernel) (pa_cons (pv 3) pa_nil)) pa_nil))) pa_nil))))))))))))))) (pcall GLawPick (hr.mono (by decide)) (by rfl) pass0 (pa_cons (pv 0) (pa_cons (pe_int) pa_nil))) (fun _ _ => rfl)))), ?_⟩
    refine seq1_abs (fun σ H1 => σ = [some (.ref Pa), some (.ref tp), some (.int x), some (.int y)] ∧ H1 = H) (fun R hR => ?_) ?_
    · (try simp only [cx_K, cx_w, rIn, rMulS, CwR.tReplC, tM1, tBM0, rPop, rExtend, rReverse, rLenS, rEqE, rNeE, rSetL, rIntI, rIntB, tBM, rAppend, rIxL, rIxT, rCat, rSlL, rSlS, gTup, tYes, wipe, tSeq, tAsg, tIfS, tRet, tRetN, tDrop, tNext, tBreak, tCont, tNever, tAug, ipI, tPar, tPar3, gName, gCons, gNil, gSub, tVar, tC, tOp, tUn, tIf, tAndV, tOrV, tNotV, tAnd, tOr, tNot, L2.tB, tTest, tCmp, tChain, tCB, tCons, tNil, tCall, tCallS, tTup, tLst, tSl, tPart, tNoPart, rI, rI0, rU, rEq, rNe, scal_ii, scal_ss, scal_bb, scal_nn, scal_is, scal_si, rIxS, S_len, S_cps, S_inj, L2.start, List.map_cons, List.map_nil, List.cons_append, List.nil_append, List.append_nil, List.getElem?_cons_zero, List.getElem?_cons_succ, List.set_cons_zero, List.set_cons_succ, List.length_cons, List.length_nil, Nat.reduceAdd, Nat.reduceSub, List.replicate_succ, List.replicate_zero, Option.some.injEq, V.int.injEq, V.str.injEq, V.bl.injEq, V.ref.injEq, List.cons.injEq, and_true, true_and, exists_eq_left, exists_eq_left', exists_and_left, exists_eq, exists_eq', decide_eq_true_eq, Bool.not_eq_true', decide_eq_false_iff_not, Bool.false_eq_true, if_false, if_true, reduceIte, ite_self, CMul, CPow, CDiv])
      exact ⟨_, SqT.of hp, rfl, _, _, rfl, _, _, rfl, rfl, hR _ _ ⟨rfl, rfl⟩⟩
    · rintro σ H1 ⟨rfl, rfl⟩
      have hPne := hP.ne
      have r_x : Rep (hide [Pa] H1) (.int x) (.int x) := rfl
      have r_y : Rep (hide [Pa] H1) (.int y) (.int y) := rfl
      show tOp _ _ _ _ _ _
      refine ret_pick (K := K) (H0 := H1) (n := 14) (givesO_cons (give_some (give_tup hPne (gives_cons (give_add (give_var (i := 2) (by rfl) r_x) give_int) (gives_cons (give_var (i := 3) (by rfl) r_y) gives_nil)) (len_small (by rfl)))) (givesO_cons (give_some (give_tup hPne (gives_cons (give_sub (give_var (i := 2) (by rfl) r_x) give_int) (gives_cons (give_var (i := 3) (by rfl) r_y) gives_nil)) (len_small (by rfl)))) (givesO_cons (give_some (give_tup hPne (gives_cons (give_var (i := 2) (by rfl) r_x) (gives_cons (give_add (give_var (i := 3) (by rfl) r_y) give_int) gives_nil)) (len_small (by rfl)))) (givesO_cons (give_some (give_tup hPne (gives_cons (give_var (i := 2) (by rfl) r_x) (gives_cons (give_sub (give_var (i := 3) (by rfl) r_y) give_int) gives_nil)) (len_small (by rfl)))) (givesO_cons (give_some (give_lst hPne (gives_cons (give_var (i := 2) (by rfl) r_x) (gives_cons (give_var (i := 3) (by rfl) r_y) gives_nil)) (len_small (by rfl)))) (givesO_cons (give_some (give_tup hPne (gives_cons (give_var (i := 2) (by rfl) r_x) (gives_cons (give_var (i := 3) (by rfl) r_y) (gives_cons give_int gives_nil))) (len_small (by rfl)))) (givesO_cons (give_some (give_tup hPne (gives_cons (give_var (i := 2) (by rfl) r_x) gives_nil) (len_small (by rfl)))) (givesO_cons (give_some give_non) (givesO_cons (give_some (give_var (i := 2) (by rfl) r_x)) (givesO_cons (give_some give_str) (givesO_cons (give_some (give_tup hPne (gives_cons give_non (gives_cons (give_var (i := 3) (by rfl) r_y) gives_nil)) (len_small (by rfl)))) (givesO_cons (give_some (give_tup hPne (gives_cons (give_var (i := 2) (by rfl) r_x) (gives_cons give_non gives_nil)) (len_small (by rfl)))) (givesO_cons (give_some (give_tup hPne (gives_cons (give_bool (gives_cons (give_var (i := 2) (by rfl) r_x) gives_nil) rfl) (gives_cons (give_var (i := 3) (by rfl) r_y) gives_nil)) (len_small (by rfl)))) (givesO_cons (give_some (give_tup hPne (gives_cons (give_var (i := 2) (by rfl) r_x) (gives_cons (give_bool (gives_cons (give_var (i := 3) (by rfl) r_y) gives_nil) rfl) gives_nil)) (len_small (by rfl)))) givesO_nil)))))))))))))) rfl hP (Same.refl _) rfl rfl (by decide) (by decide) ?q
      case q =>
        intro o v H' ho st hr
        refine q o v H' ?_ st hr
        simp only [List.mem_cons, List.not_mem_nil, or_false] at ho
        rcases ho with rfl | rfl | rfl | rfl | rfl | rfl | rfl | rfl | rfl | rfl | rfl | rfl | rfl | rfl <;> simp [isPlace] <;> omega
theorem sm_int {x : Int} (h : x.natAbs < 1000000000000) (n : Nat) : smD n (.int x) = true := by
  cases n <;> exact decide_eq_true h
theorem sm_at : ∀ {ds : List D} {i : Nat} {d : D} {n : Nat}, smDs n ds = true → ds[i]? = some d → smD n d = true
  | [], _, _, _, _, h => nomatch h
  | d :: ds, 0, e, n, h, he => by
    have he : d = e := Option.some.inj he
    rw [← he]
    rw [smDs, Bool.and_eq_true] at h
    exact h.1
  | d :: ds, i + 1, e, n, h, he => by
    rw [smDs, Bool.and_eq_true] at h
    exact sm_at (i := i) h.2 he
theorem sm_opt {o : Option Nat} {m : Nat} (h : smD m (optD o) = true) (n : Nat) : smD n (optD o) = true := by
  cases o with
  | none => cases n <;> rfl
  | some k => cases m <;> exact sm_int (of_decide_eq_true h) n
theorem sm_tup4 {n : Nat} {ds : List D} : smD (n + 1) (.tup ds) = smDs n ds := by rw [smD]
theorem sm_lst4 {n : Nat} {ds : List D} : smD (n + 1) (.lst ds) = smDs n ds := by rw [smD]
theorem sm_strI {x : Int} (h : x.natAbs < 1000000000000) (n : Nat) : smD n (.str (Str.ofString (toString x)).cps.toList) = true := by
  have h1 : (Str.ofString (toString x)).cps.toList.length ≤ 20 := by
    have h2 := PySem.int_text_length_le10 (a := x) (k := 12) (by decide) h
    have h3 := PySem.ofString_length (toString x)
    have h4 : (Str.ofString (toString x)).length = (Str.ofString (toString x)).cps.size := rfl
    rw [Array.length_toList]
    omega
  have h5 : (Str.ofString (toString x)).cps.toList.all (fun c => decide (c < 1114112)) = true := by
    rw [Str.ofString_eq_toList]
    rw [List.all_eq_true]
    intro c hc
    obtain ⟨ch, _, rfl⟩ := List.mem_map.mp hc
    have := ch.valid
    refine decide_eq_true ?_
    rcases this with h | h
    · show ch.val.toNat < 1114112
      omega
    · exact h.2
  have : (decide ((Str.ofString (toString x)).cps.toList.length ≤ 20) && (Str.ofString (toString x)).cps.toList.all (fun c => decide (c < 1114112))) = true := by
    rw [decide_eq_true h1, h5]
    rfl
  cases n <;> exact this
def spSpStretch : Sp := fun vs H Q _ => ∃ Pa t row stop i j many, vs = [.ref Pa, .ref t, .int many] ∧ PoolAt Pa H ∧ H t = some (.tup [.int row, .int stop, noV i, noV j]) ∧ 0 ≤ many ∧ many ≤ 1000 ∧ smDs 1 [.int row, .int stop, optD i, optD j] = true ∧ row.natAbs < 999999999990 ∧ stop.natAbs < 999999999990 ∧
  ∀ ds a xs H', smDs 4 ds = true → dsizes ds ≤ 20 → Pst Pa H H' → hide [Pa] H' a = some (.lst xs) → Reps (hide [Pa] H') ds xs → Q (.ref a) H'
theorem okSpStretch (T : Top K w mg) : Ok P w K mg base CX0 3 "_law_spoilt_stretch" ["pool", "stretch", "many"] spSpStretch := by
  have GLawPick : Ok P w K mg base CX0 1 "_law_pick" ["pool", "many"] spPick := okPick T
  have GLawFar : Ok P w K mg base CX0 2 "_law_far" ["pool", "many"] spFar := okFar T
  have m_bool := T.m_bool
  have m_str := T.m_str
  refine mkOk T.f__law_spoilt_stretch scLawSpoiltStretch (fun vs H Q E h => ?_) (fun f cdv A outer s H vs Q E hr h => ?_)
  · obtain ⟨_, _, _, _, _, _, _, rfl, _⟩ := h
    rfl
  · obtain ⟨Pa, t, row, stop, i, j, many, rfl, hP, ht, hm0, hm1, hsm, hb1, hb2, q⟩ := h
    refine ⟨_, pss_cons (ps_asg (pv 1) (pg_tup (n := 4) rfl (pgs_cons (pg_name (i := 3) scLawSpoiltStretch.nd rfl (Or.inl rfl)) (pgs_cons (pg_name (i := 4) scLawSpoiltStretch.nd rfl (Or.inl rfl)) (pgs_cons (pg_name (i := 5) scLawSpoiltStretch.nd rfl (Or.inl rfl)) (pgs_cons (pg_name (i := 6) scLawSpoiltStretch.nd rfl (Or.inl rfl)) pgs_nil))))))
  (pss_cons (ps_par (i := 7) (j := 8) rfl scLawSpoiltStretch.nd rfl rfl (by decide) rfl rfl (pa_cons (pcall GLawPick (hr.mono (by decide)) (by rfl) pass0 (pa_cons (pv 0) (pa_cons (pe_int) pa_nil))) (pa_cons (pe_op op_sub (pcall GLawFar (hr.mono (by decide)) (by rfl) pass0 (pa_cons (pv 0) (pa_cons (pe_op op_add (pv 2) (pe_int)) pa_nil))) (pe_int)) pa_nil)) (by rfl))
  (pss_cons (ps_set (i := 9) scLawSpoiltStretch.nd rfl (Or.inl rfl) (pe_ix ix_list (pe_lst (pa_cons (pe_int) (pa_cons (pe_op op_sub (pe_int) (pe_int)) (pa_cons (pe_int) (pa_cons (pe_op op_sub (pe_int) (pe_int)) pa_nil))))) (pcall GLawPick (hr.mono (by decide)) (by rfl) pass0 (pa_cons (pv 0) (pa_cons (pe_int) pa_nil))) (fun _ _ => rfl)))
  (pss_one (ps_ret (pe_ix ix_list (pe_lst (pa_cons (pe_lst (pa_nil)) (pa_cons (pe_lst (pa_cons (pe_tup (pa_cons (pe_op op_add (pv 3) (pv 9)) (pa_cons (pv 4) (pa_cons (pv 5) (pa_cons (pv 6) pa_nil))))) pa_nil)) (pa_cons (pe_lst (pa_cons (pe_tup (pa_cons (pv 3) (pa_cons (pe_op op_add (pv 4) (pv 9)) (pa_cons (pv 5) (pa_cons (pv 6) pa_nil))))) pa_nil)) (pa_cons (pe_lst (pa_cons (pe_tup (pa_cons (pv 3) (pa_cons (pv 4) (pa_cons (pv 8) (pa_cons (pv 6) pa_nil))))) pa_nil)) (pa_cons (pe_lst (pa_cons (pe_tup (pa_cons (pv 3) (pa_cons (pv 4) (pa_cons (pv 5) (pa_cons (pv 8) pa_nil))))) pa_nil)) (pa_cons (pe_lst (pa_cons (pe_tup (pa_cons (pv 3) (pa_cons (pv 4) (pa_cons (pe_non) (pa_cons (pv 6) pa_nil))))) pa_nil)) (pa_cons (pe_lst (pa_cons (pe_tup (pa_cons (pv 3) (pa_cons (pv 4) (pa_cons (pv 5) (pa_cons (pe_non) pa_nil))))) pa_nil)) (pa_cons (pe_lst (pa_cons (pe_tup (pa_cons (pv 3) (pa_cons (pv 4) (pa_cons (pe_non) (pa_cons (pe_non) pa_nil))))) pa_nil)) (pa_cons (pe_lst (pa_cons (pe_tup (pa_cons (pv 3) (pa_cons (pv 4) (pa_cons (pv 6) (pa_cons (pv 5) pa_nil))))) pa_nil)) (pa_cons (pe_lst (pa_cons (pv 1) (pa_cons (pv 1) pa_nil))) (pa_cons (pe_lst (pa_cons (pe_lst (pa_cons (pv 3) (pa_cons (pv 4) (pa_cons (pv 5) (pa_cons (pv 6) pa_nil))))) pa_nil)) (pa_cons (pe_lst (pa_cons (pe_tup (pa_cons (pv 3) (pa_cons (pv 4) (pa_cons (pv 5) (pa_cons (pv 6) (pa_cons (pe_int) pa_nil)))))) pa_nil)) (pa_cons (pe_lst (pa_cons (pe_tup (pa_cons (pv 3) (pa_cons (pv 4) (pa_cons (pv 5) pa_nil)))) pa_nil)) (pa_cons (pe_lst (pa_cons (pe_tup (pa_cons (pv 3) (pa_cons (pv 4) (pa_cons (pe_callTy call_boolN (by rfl) m_bool (by decide +kernel) (pa_cons (pv 5) pa_nil)) (pa_cons (pe_callTy call_boolN (by rfl) m_bool (by decide +kernel) (pa_cons (pv 6) pa_nil)) pa_nil))))) pa_nil)) (pa_cons (pe_lst (pa_cons (pe_tup (pa_cons (pe_non) (pa_cons (pv 4) (pa_cons (pv 5) (pa_cons (pv 6) pa_nil))))) pa_nil)) (pa_cons (pe_lst (pa_cons (pe_tup (pa_cons (pv 3) (pa_cons (pe_non) (pa_cons (pv 5) (pa_cons (pv 6) pa_nil))))) pa_nil)) (pa_cons (pe_lst (pa_cons (pe_tup (pa_cons (pe_callTy call_strN (by rfl) m_str (by decide +kernel) (pa_cons (pv 3) pa_nil)) (pa_cons (pv 4) (pa_cons (pv 5) (pa_cons (pv 6) pa_nil))))) pa_nil)) (pa_cons (pe_lst (pa_cons (pe_tup (pa_cons (pe_callTy call_boolN (by rfl) m_bool (by decide +kernel) (pa_cons (pv 3) pa_nil)) (pa_cons (pv 4) (pa_cons (pv 5) (pa_cons (pv 6) pa_nil))))) pa_nil)) (pa_cons (pe_lst (pa_cons (pe_tup (pa_cons (pv 3) (pa_cons (pe_callTy call_boolN (by rfl) m_bool (by decide +kernel) (pa_cons (pv 4) pa_nil)) (pa_cons (pv 5) (pa_cons (pv 6) pa_nil))))) pa_nil)) (pa_cons (pe_lst (pa_cons (pe_tup (pa_cons (pv 3) (pa_cons (pv 4) (pa_cons (pe_str) (pa_cons (pv 6) pa_nil))))) pa_nil)) pa_nil))))))))))))))))))))) (pv 7) (fun _ _ => rfl)))))), ?_⟩
    refine seq3_abs (fun σ H1 => ∃ (kind other step : Int), σ = [some (.ref Pa), some (.ref t), some (.int many), some (.int row), some (.int stop), some (noV i), some (noV j), some (.int kind), some (.int other), some (.int step)] ∧ Pst Pa H H1 ∧ -2 ≤ other ∧ other ≤ 1001 ∧ -2 ≤ step ∧ step ≤ 2 ∧ 0 ≤ kind ∧ kind < 20) (fun R hR => ?_) ?_
    · (try simp only [cx_K, cx_w, rIn, rMulS, CwR.tReplC, tM1, tBM0, rPop, rExtend, rReverse, rLenS, rEqE, rNeE, rSetL, rIntI, rIntB, tBM, rAppend, rIxL, rIxT, rCat, rSlL, rSlS, gTup, tYes, wipe, tSeq, tAsg, tIfS, tRet, tRetN, tDrop, tNext, tBreak, tCont, tNever, tAug, ipI, tPar, tPar3, gName, gCons, gNil, gSub, tVar, tC, tOp, tUn, tIf, tAndV, tOrV, tNotV, tAnd, tOr, tNot, L2.tB, tTest, tCmp, tChain, tCB, tCons, tNil, tCall, tCallS, tTup, tLst, tSl, tPart, tNoPart, rI, rI0, rU, rEq, rNe, scal_ii, scal_ss, scal_bb, scal_nn, scal_is, scal_si, rIxS, S_len, S_cps, S_inj, L2.start, List.map_cons, List.map_nil, List.cons_append, List.nil_append, List.append_nil, List.getElem?_cons_zero, List.getElem?_cons_succ, List.set_cons_zero, List.set_cons_succ, List.length_cons, List.length_nil, Nat.reduceAdd, Nat.reduceSub, List.replicate_succ, List.replicate_zero, Option.some.injEq, V.int.injEq, V.str.injEq, V.bl.injEq, V.ref.injEq, List.cons.injEq, and_true, true_and, exists_eq_left, exists_eq_left', exists_and_left, exists_eq, exists_eq', decide_eq_true_eq, Bool.not_eq_true', decide_eq_false_iff_not, Bool.false_eq_true, if_false, if_true, reduceIte, ite_self, CMul, CPow, CDiv])
      refine ⟨_, SqT.of ht, rfl, _, _, rfl, _, _, rfl, _, _, rfl, _, _, rfl, rfl, Pa, 20, rfl, hP, by decide, fun kind H1 k0 k1 st1 => ⟨Pa, many + 3, rfl, st1.pool, by omega, fun ot H2 ot0 ot1 st2 => ⟨ot, rfl, _, _, ⟨rfl, rfl⟩, by decide, fun p hp => ⟨Pa, 4, rfl, (st2.new hp).pool, by decide, fun sk H3 sk0 sk1 st3 => ?_⟩⟩⟩⟩
      have st23 := st2.new (o := .lst [V.int 1, V.int (0 - 1), V.int 2, V.int (0 - 2)]) hp
      obtain ⟨z, ez, hz⟩ := ints_mem (ns := [1, 0 - 1, 2, 0 - 2]) sk0 sk1
      refine ⟨_, sk, rfl, SqL.of (lst_keep st2 hp st3), _, ez, hR _ _ ⟨kind, ot - 2, z, rfl, (st1.trans st23).trans st3, by omega, by omega, ?_, ?_, k0, k1⟩⟩
      · simp at hz
        omega
      · simp at hz
        omega
    · rintro σ H1 ⟨kind, other, step, rfl, st1, o0, o1, s0, s1, k0, k1⟩
      have hPne := st1.pool.ne
      have r_row : Rep (hide [Pa] H1) (.int row) (.int row) := rfl
      have r_end : Rep (hide [Pa] H1) (.int stop) (.int stop) := rfl
      have r_other : Rep (hide [Pa] H1) (.int other) (.int other) := rfl
      have r_step : Rep (hide [Pa] H1) (.int step) (.int step) := rfl
      have r_i : Rep (hide [Pa] H1) (optD i) (noV i) := rep_opt i
      have r_j : Rep (hide [Pa] H1) (optD j) (noV j) := rep_opt j
      have ht1 := st1.tup hP ht
      have nt : t ≠ Pa := fun e => by
        obtain ⟨pp, rr, epp, _⟩ := hP
        rw [← e, ht] at epp
        cases epp
      have r_stretch : Rep (hide [Pa] H1) (.tup [.int row, .int stop, optD i, optD j]) (.ref t) := ⟨t, _, rfl, hide_some.mpr ⟨by simp [nt], ht1⟩, _, _, rfl, rfl, _, _, rfl, rfl, _, _, rfl, rep_opt i, _, _, rfl, rep_opt j, rfl⟩
      have hiN : isIN (optD i) = true := by cases i <;> rfl
      have hjN : isIN (optD j) = true := by cases j <;> rfl
      have hlog : row.natAbs.log2 < 1920 := by
        by_cases h0 : row.natAbs = 0
        · rw [h0]
          decide
        · have : row.natAbs.log2 < 40 := (Nat.log2_lt h0).mpr (Nat.lt_of_lt_of_le hb1 (by decide))
          omega
      show tOp _ _ _ _ _ _
      refine ret_at (K := K) (H0 := H1) (n := 20) (i := 7) (givesO_cons (give_some (give_lst hPne gives_nil (len_small (by rfl)))) (givesO_cons (give_some (give_lst hPne (gives_cons (give_tup hPne (gives_cons (give_add (give_var (i := 3) (by rfl) r_row) (give_var (i := 9) (by rfl) r_step)) (gives_cons (give_var (i := 4) (by rfl) r_end) (gives_cons (give_var (i := 5) (by rfl) r_i) (gives_cons (give_var (i := 6) (by rfl) r_j) gives_nil)))) (len_small (by rfl))) gives_nil) (len_small (by rfl)))) (givesO_cons (give_some (give_lst hPne (gives_cons (give_tup hPne (gives_cons (give_var (i := 3) (by rfl) r_row) (gives_cons (give_add (give_var (i := 4) (by rfl) r_end) (give_var (i := 9) (by rfl) r_step)) (gives_cons (give_var (i := 5) (by rfl) r_i) (gives_cons (give_var (i := 6) (by rfl) r_j) gives_nil)))) (len_small (by rfl))) gives_nil) (len_small (by rfl)))) (givesO_cons (give_some (give_lst hPne (gives_cons (give_tup hPne (gives_cons (give_var (i := 3) (by rfl) r_row) (gives_cons (give_var (i := 4) (by rfl) r_end) (gives_cons (give_var (i := 8) (by rfl) r_other) (gives_cons (give_var (i := 6) (by rfl) r_j) gives_nil)))) (len_small (by rfl))) gives_nil) (len_small (by rfl)))) (givesO_cons (give_some (give_lst hPne (gives_cons (give_tup hPne (gives_cons (give_var (i := 3) (by rfl) r_row) (gives_cons (give_var (i := 4) (by rfl) r_end) (gives_cons (give_var (i := 5) (by rfl) r_i) (gives_cons (give_var (i := 8) (by rfl) r_other) gives_nil)))) (len_small (by rfl))) gives_nil) (len_small (by rfl)))) (givesO_cons (give_some (give_lst hPne (gives_cons (give_tup hPne (gives_cons (give_var (i := 3) (by rfl) r_row) (gives_cons (give_var (i := 4) (by rfl) r_end) (gives_cons give_non (gives_cons (give_var (i := 6) (by rfl) r_j) gives_nil)))) (len_small (by rfl))) gives_nil) (len_small (by rfl)))) (givesO_cons (give_some (give_lst hPne (gives_cons (give_tup hPne (gives_cons (give_var (i := 3) (by rfl) r_row) (gives_cons (give_var (i := 4) (by rfl) r_end) (gives_cons (give_var (i := 5) (by rfl) r_i) (gives_cons give_non gives_nil)))) (len_small (by rfl))) gives_nil) (len_small (by rfl)))) (givesO_cons (give_some (give_lst hPne (gives_cons (give_tup hPne (gives_cons (give_var (i := 3) (by rfl) r_row) (gives_cons (give_var (i := 4) (by rfl) r_end) (gives_cons give_non (gives_cons give_non gives_nil)))) (len_small (by rfl))) gives_nil) (len_small (by rfl)))) (givesO_cons (give_some (give_lst hPne (gives_cons (give_tup hPne (gives_cons (give_var (i := 3) (by rfl) r_row) (gives_cons (give_var (i := 4) (by rfl) r_end) (gives_cons (give_var (i := 6) (by rfl) r_j) (gives_cons (give_var (i := 5) (by rfl) r_i) gives_nil)))) (len_small (by rfl))) gives_nil) (len_small (by rfl)))) (givesO_cons (give_some (give_lst hPne (gives_cons (give_var (i := 1) (by rfl) r_stretch) (gives_cons (give_var (i := 1) (by rfl) r_stretch) gives_nil)) (len_small (by rfl)))) (givesO_cons (give_some (give_lst hPne (gives_cons (give_lst hPne (gives_cons (give_var (i := 3) (by rfl) r_row) (gives_cons (give_var (i := 4) (by rfl) r_end) (gives_cons (give_var (i := 5) (by rfl) r_i) (gives_cons (give_var (i := 6) (by rfl) r_j) gives_nil)))) (len_small (by rfl))) gives_nil) (len_small (by rfl)))) (givesO_cons (give_some (give_lst hPne (gives_cons (give_tup hPne (gives_cons (give_var (i := 3) (by rfl) r_row) (gives_cons (give_var (i := 4) (by rfl) r_end) (gives_cons (give_var (i := 5) (by rfl) r_i) (gives_cons (give_var (i := 6) (by rfl) r_j) (gives_cons give_int gives_nil))))) (len_small (by rfl))) gives_nil) (len_small (by rfl)))) (givesO_cons (give_some (give_lst hPne (gives_cons (give_tup hPne (gives_cons (give_var (i := 3) (by rfl) r_row) (gives_cons (give_var (i := 4) (by rfl) r_end) (gives_cons (give_var (i := 5) (by rfl) r_i) gives_nil))) (len_small (by rfl))) gives_nil) (len_small (by rfl)))) (givesO_cons (give_some (give_lst hPne (gives_cons (give_tup hPne (gives_cons (give_var (i := 3) (by rfl) r_row) (gives_cons (give_var (i := 4) (by rfl) r_end) (gives_cons (give_bool (gives_cons (give_var (i := 5) (by rfl) r_i) gives_nil) hiN) (gives_cons (give_bool (gives_cons (give_var (i := 6) (by rfl) r_j) gives_nil) hjN) gives_nil)))) (len_small (by rfl))) gives_nil) (len_small (by rfl)))) (givesO_cons (give_some (give_lst hPne (gives_cons (give_tup hPne (gives_cons give_non (gives_cons (give_var (i := 4) (by rfl) r_end) (gives_cons (give_var (i := 5) (by rfl) r_i) (gives_cons (give_var (i := 6) (by rfl) r_j) gives_nil)))) (len_small (by rfl))) gives_nil) (len_small (by rfl)))) (givesO_cons (give_some (give_lst hPne (gives_cons (give_tup hPne (gives_cons (give_var (i := 3) (by rfl) r_row) (gives_cons give_non (gives_cons (give_var (i := 5) (by rfl) r_i) (gives_cons (give_var (i := 6) (by rfl) r_j) gives_nil)))) (len_small (by rfl))) gives_nil) (len_small (by rfl)))) (givesO_cons (give_some (give_lst hPne (gives_cons (give_tup hPne (gives_cons (give_strI (gives_cons (give_var (i := 3) (by rfl) r_row) gives_nil) hlog) (gives_cons (give_var (i := 4) (by rfl) r_end) (gives_cons (give_var (i := 5) (by rfl) r_i) (gives_cons (give_var (i := 6) (by rfl) r_j) gives_nil)))) (len_small (by rfl))) gives_nil) (len_small (by rfl)))) (givesO_cons (give_some (give_lst hPne (gives_cons (give_tup hPne (gives_cons (give_bool (gives_cons (give_var (i := 3) (by rfl) r_row) gives_nil) rfl) (gives_cons (give_var (i := 4) (by rfl) r_end) (gives_cons (give_var (i := 5) (by rfl) r_i) (gives_cons (give_var (i := 6) (by rfl) r_j) gives_nil)))) (len_small (by rfl))) gives_nil) (len_small (by rfl)))) (givesO_cons (give_some (give_lst hPne (gives_cons (give_tup hPne (gives_cons (give_var (i := 3) (by rfl) r_row) (gives_cons (give_bool (gives_cons (give_var (i := 4) (by rfl) r_end) gives_nil) rfl) (gives_cons (give_var (i := 5) (by rfl) r_i) (gives_cons (give_var (i := 6) (by rfl) r_j) gives_nil)))) (len_small (by rfl))) gives_nil) (len_small (by rfl)))) (givesO_cons (give_some (give_lst hPne (gives_cons (give_tup hPne (gives_cons (give_var (i := 3) (by rfl) r_row) (gives_cons (give_var (i := 4) (by rfl) r_end) (gives_cons give_str (gives_cons (give_var (i := 6) (by rfl) r_j) gives_nil)))) (len_small (by rfl))) gives_nil) (len_small (by rfl)))) givesO_nil)))))))))))))))))))) rfl hPne (Same.refl _) rfl k0 k1 (by decide) ?q
      case q =>
        intro o v H' ho st hr
        have lI : ∀ n, smD n (optD i) = true := fun n => sm_opt (sm_at (i := 2) hsm rfl) n
        have lJ : ∀ n, smD n (optD j) = true := fun n => sm_opt (sm_at (i := 3) hsm rfl) n
        have zI : dsize (optD i) = 1 := by cases i <;> rfl
        have zJ : dsize (optD j) = 1 := by cases j <;> rfl
        have lint : ∀ {x : Int}, x.natAbs < 1000000000000 → ∀ n, smD n (.int x) = true := fun {x} h n => sm_int h n
        have l1 := lint (x := row) (by omega)
        have l2 := lint (x := stop) (by omega)
        have l3 := lint (x := row + step) (by omega)
        have l4 := lint (x := stop + step) (by omega)
        have l5 := lint (x := other) (by omega)
        have l6 := lint (x := 0) (by decide)
        have l7 : ∀ n, smD n (.str (Str.ofString (toString row)).cps.toList) = true := fun n => sm_strI (by omega) n
        have l8' : (decide (("0" : Str).cps.toList.length ≤ 20) && ("0" : Str).cps.toList.all (fun c => decide (c < 1114112))) = true := by decide +kernel
        have l8 : ∀ n, smD n (.str ("0" : Str).cps.toList) = true := fun n => by cases n <;> exact l8'
        have lb : ∀ n b, smD n (.bl b) = true := fun n b => by cases n <;> rfl
        have ln : ∀ n, smD n .non = true := fun n => by cases n <;> rfl
        have key : ∃ ds, o = some (.lst ds) ∧ smDs 4 ds = true ∧ dsizes ds ≤ 20 := by
          simp only [List.mem_cons, List.not_mem_nil, or_false] at ho
          rcases ho with rfl | rfl | rfl | rfl | rfl | rfl | rfl | rfl | rfl | rfl | rfl | rfl | rfl | rfl | rfl | rfl | rfl | rfl | rfl | rfl <;> refine ⟨_, rfl, ?_, ?_⟩
          all_goals first
            | (simp only [smDs, sm_tup4, sm_lst4, lI, lJ, l1, l2, l3, l4, l5, l6, l7, l8, lb, ln, Bool.and_true])
            | (simp only [dsizes, dsize, zI, zJ]; decide)
        obtain ⟨ds, rfl, h1, h2⟩ := key
        obtain ⟨a, xs, rfl, ha, hx⟩ := hr
        exact q ds a xs H' h1 h2 (st1.same st) ha hx
/-- small data, or an empty dict -/
def SmO (o : Option D) : Prop := ∀ d, o = some d → smD 5 d = true ∧ dsize d ≤ 24000
structure PsSm (ps : List Stp) : Prop where
  len : ps.length ≤ 1001
  bd : ∀ s ∈ ps, s.row.natAbs < 999999999990 ∧ s.stop.natAbs < 999999999990 ∧ smD 0 (optD s.i) = true ∧ smD 0 (optD s.j) = true
theorem seq_ifEq {i : Nat} {k n : Int} {te : TE} {R : TS} {D : Ends} {σ : L2.St} {H : Hp} (hs : σ[i]? = some (some (.int k))) (h1 : k = n → te σ H D.rt) (h2 : k ≠ n → R D σ H) : tSeq (tIfS (tTest (tOp rEq (tVar i) (tC (.int n)))) (tRet te) tNext) R D σ H := by
  refine ⟨_, hs, rfl, decide (V.int k = V.int n), rfl, ?_⟩
  by_cases h : k = n
  · rw [decide_eq_true (congrArg V.int h)]
    exact ifT rfl (h1 h)
  · rw [decide_eq_false (fun z => h (V.int.inj z))]
    exact ifF Bool.false_ne_true (h2 h)
theorem sm_sub {n : Nat} : ∀ {es ds : List D}, es.Sublist ds → smDs n ds = true → smDs n es = true
  | _, _, .slnil, h => h
  | _, _, .cons d s, h => by
    rw [smDs, Bool.and_eq_true] at h
    exact sm_sub s h.2
  | _, _, .cons_cons d s, h => by
    rw [smDs, Bool.and_eq_true] at h ⊢
    exact ⟨h.1, sm_sub s h.2⟩
theorem ds_sub : ∀ {es ds : List D}, es.Sublist ds → dsizes es ≤ dsizes ds
  | _, _, .slnil => Nat.le_refl _
  | _, _, .cons d s => by
    have := ds_sub s
    rw [dsizes]
    omega
  | _, _, .cons_cons d s => by
    have := ds_sub s
    rw [dsizes, dsizes]
    omega
theorem sm_app {n : Nat} : ∀ {as bs : List D}, smDs n as = true → smDs n bs = true → smDs n (as ++ bs) = true
  | [], _, _, h => h
  | d :: as, bs, h1, h2 => by
    rw [smDs, Bool.and_eq_true] at h1
    rw [List.cons_append, smDs, h1.1, sm_app h1.2 h2]
    rfl
theorem sm_ps {n : Nat} : ∀ {ps : List Stp}, (∀ s ∈ ps, s.row.natAbs < 999999999990 ∧ s.stop.natAbs < 999999999990 ∧ smD 0 (optD s.i) = true ∧ smD 0 (optD s.j) = true) → smDs (n + 1) (ps.map stpD) = true
  | [], _ => by rw [List.map_nil, smDs]
  | s :: ps, h => by
    obtain ⟨h1, h2, h3, h4⟩ := h s List.mem_cons_self
    have := sm_ps (n := n) fun x hx => h x (List.mem_cons_of_mem _ hx)
    rw [List.map_cons, smDs, this, stpD, sm_tup4, smDs, smDs, smDs, smDs, smDs, sm_int (by omega), sm_int (by omega), sm_opt h3, sm_opt h4]
    rfl
theorem ds_ps : ∀ {ps : List Stp}, dsizes (ps.map stpD) = 5 * ps.length
  | [] => rfl
  | s :: ps => by
    have zI : ∀ o, dsize (optD o) = 1 := fun o => by cases o <;> rfl
    have h5 : dsize (stpD s) = 5 := by simp [stpD, dsize, dsizes, zI]
    rw [List.map_cons, dsizes, ds_ps, List.length_cons, h5]
    omega
theorem reps_take {G : Hp} : ∀ {ds : List D} {xs : List V} (_ : Reps G ds xs) (k : Nat), Reps G (ds.take k) (xs.take k)
  | _, _, _, 0 => by
    rw [List.take_zero, List.take_zero]
    rfl
  | [], _, e, k + 1 => by
    have e : _ = [] := e
    subst e
    rfl
  | _ :: _, _, ⟨x, r, e, e1, e2⟩, k + 1 => by
    subst e
    exact ⟨x, r.take k, rfl, e1, reps_take e2 k⟩
theorem cut_rep {G : Hp} {ds : List D} {xs : List V} {lo hi : Option Int} (h : Reps G ds xs) : ∃ es, Reps G es (cutV xs lo hi) ∧ es.Sublist ds :=
  ⟨(ds.drop (HT.sIx xs.length 0 lo)).take (HT.sIx xs.length xs.length hi - HT.sIx xs.length 0 lo), reps_take (reps_drop h _) _, (List.take_sublist _ _).trans (List.drop_sublist _ _)⟩
theorem or_test {K : PySem.W.Frag} {F : Bool → Hp → Prop} {σ : L2.St} {H : Hp} {ap : Addr} {zs : List V} {kind : Int} (h1 : σ[1]? = some (some (.ref ap))) (h3 : σ[3]? = some (some (.int kind))) (hz : H ap = some (.lst zs))
    (hF : ∀ H1, Same H H1 → F (zs.isEmpty || decide (kind = 3)) H1) : tOr (tTest (tOp (rEqE K) (tVar 1) (tLst tNil))) (tTest (tOp rEq (tVar 3) (tC (.int 3)))) σ H F := by
  refine ⟨_, h1, Nat.zero_le _, fun p hp => ⟨ap, p, zs, rfl, rfl, SqL.of ((Same.new hp) _ _ hz), SqL.of upd_same, zs.isEmpty, rfl, ?_⟩⟩
  have := hF _ (Same.new (o := .lst []) hp)
  cases he : zs.isEmpty with
  | true =>
    rw [he, Bool.true_or] at this
    exact ifT rfl this
  | false =>
    rw [he, Bool.false_or] at this
    refine ifF Bool.false_ne_true ⟨_, h3, rfl, decide (V.int kind = V.int 3), rfl, ?_⟩
    have e : decide (V.int kind = V.int 3) = decide (kind = 3) := by
      rw [decide_eq_decide]
      exact ⟨fun z => V.int.inj z, fun z => congrArg V.int z⟩
    rw [e]
    exact this
theorem seq_ifAbs {t : TT} {B R : TS} {D : Ends} {σ : L2.St} {H : Hp} (h : t σ H (fun b H1 => if b = true then B { D with nx := R D } σ H1 else R D σ H1)) : tSeq (tIfS t B tNext) R D σ H := h
def lastS (ps : List Stp) : List Int := match ps.getLast? with
  | some s => [s.stop]
  | none => []
theorem rep_opt_eq {G : Hp} {o : Option Nat} {x : V} (h : Rep G (optD o) x) : x = noV o := by
  cases o <;> exact h
def spSpoilt : Sp := fun vs H Q _ => ∃ Pa ap many ps zs, vs = [.ref Pa, .ref ap, .int many] ∧ PoolAt Pa H ∧ hide [Pa] H ap = some (.lst zs) ∧ Reps (hide [Pa] H) (ps.map stpD) zs ∧ PsSm ps ∧ 0 ≤ many ∧ many ≤ 1000 ∧
  ∀ o v H', SmO o → Pst Pa H H' → RepO (hide [Pa] H') o v → Q v H'
theorem okSpoilt (T : Top K w mg) : Ok P w K mg base CX0 4 "_law_spoilt" ["pool", "paper", "many"] spSpoilt := by
  have GLawPick : Ok P w K mg base CX0 1 "_law_pick" ["pool", "many"] spPick := okPick T
  have GLawFar : Ok P w K mg base CX0 2 "_law_far" ["pool", "many"] spFar := okFar T
  have GLawSpoiltStretch : Ok P w K mg base CX0 3 "_law_spoilt_stretch" ["pool", "stretch", "many"] spSpStretch := okSpStretch T
  have m_tuple := T.m_tuple
  have m_len := T.m_len
  refine mkOk T.f__law_spoilt scLawSpoilt (fun vs H Q E h => ?_) (fun f cdv A outer s H vs Q E hr h => ?_)
  · obtain ⟨_, _, _, _, _, rfl, _⟩ := h
    rfl
  · obtain ⟨Pa, ap, many, ps, zs, rfl, hP, ha, hR, hsm, hm0, hm1, q⟩ := h
    refine ⟨_, pss_cons (ps_set (i := 3) scLawSpoilt.nd rfl (Or.inl rfl) (pcall GLawPick (hr.mono (by decide)) (by rfl) pass0 (pa_cons (pv 0) (pa_cons (pe_int) pa_nil))))
  (pss_cons (ps_if (pt_cmpR op_eq (pv 3) (pe_int) (nomark _))
  (pss_one (ps_ret (pe_ix ix_list (pe_lst (pa_cons (pe_non) (pa_cons (pe_tup (pa_nil)) (pa_cons (pe_dnewK) (pa_cons (pe_str) (pa_cons (pe_int) (pa_cons (pe_callTy call_tupN (by rfl) m_tuple (by decide +kernel) (pa_cons (pv 1) pa_nil)) (pa_cons (pe_lst (pa_cons (pe_lst (pa_nil)) pa_nil)) (pa_cons (pe_lst (pa_cons (pe_non) pa_nil)) (pa_cons (pe_lst (pa_cons (pe_tup (pa_nil)) pa_nil)) (pa_cons (pe_lst (pa_cons (pe_tup (pa_cons (pe_int) (pa_cons (pe_int) pa_nil))) pa_nil)) pa_nil))))))))))) (pcall GLawPick (hr.mono (by decide)) (by rfl) pass0 (pa_cons (pv 0) (pa_cons (pe_int) pa_nil))) (fun _ _ => rfl))))
  (pss_nil))
  (pss_cons (ps_if (pt_cmpR op_eq (pv 3) (pe_int) (nomark _))
  (pss_one (ps_ret (pe_slice sl_list (pv 1) (po_some (pe_int)) po_none)))
  (pss_nil))
  (pss_cons (ps_if (pt_cmpR op_eq (pv 3) (pe_int) (nomark _))
  (pss_one (ps_ret (pe_slice sl_list (pv 1) po_none (po_some (pe_un un_neg (pe_int))))))
  (pss_nil))
  (pss_cons (ps_if (PW.pt (pw_or (pt_cmpR (op_eqE hr.units0) (pv 1) (pe_lst (pa_nil)) (nomark _)) (pw_or1 (pt_cmpR op_eq (pv 3) (pe_int) (nomark _)))))
  (pss_cons (ps_set (i := 4) scLawSpoilt.nd rfl (Or.inl rfl) (pe_op op_cat (pe_lc (own := [("k", 5)]) rfl scLawSpoilt.nd (pi_list (pe_lst (pa_cons (pe_int) pa_nil))) (blkOk_by (own := [("k", 5)]) (N := ["pool", "paper", "many", "kind", "end", "k"]) (sc := defScope sLawSpoilt) (by decide +kernel)) (fun _ _ _ _ _ => pg_name (i := 5) scLawSpoilt.nd rfl (Or.inl rfl)) (fun _ _ _ _ _ => pts_one (pt_cmpR (op_neEK (K := K) rfl hr.units0) (pv 1) (pe_lst (pa_nil)) (nomark _))) (fun _ _ _ _ _ => pe_ix (ix_tupK (K := K) rfl) (pe_ix (ix_listK (K := K) rfl) (pv 1) (pe_un un_neg (pe_int)) (fun _ _ => rfl)) (pe_int) (fun _ _ => rfl))) (pe_lst (pa_cons (pe_int) pa_nil))))
  (pss_one (ps_ret (pe_op op_cat (pv 1) (pe_ix ix_list (pe_lst (pa_cons (pe_lst (pa_cons (pe_tup (pa_cons (pe_ix ix_list (pv 4) (pe_int) (fun _ _ => rfl)) (pa_cons (pe_op op_add (pe_ix ix_list (pv 4) (pe_int) (fun _ _ => rfl)) (pe_int)) (pa_cons (pe_int) (pa_cons (pe_non) pa_nil))))) pa_nil)) (pa_cons (pe_lst (pa_cons (pe_tup (pa_cons (pe_ix ix_list (pv 4) (pe_int) (fun _ _ => rfl)) (pa_cons (pe_ix ix_list (pv 4) (pe_int) (fun _ _ => rfl)) (pa_cons (pe_non) (pa_cons (pe_int) pa_nil))))) pa_nil)) (pa_cons (pe_lst (pa_cons (pe_non) pa_nil)) pa_nil)))) (pcall GLawPick (hr.mono (by decide)) (by rfl) pass0 (pa_cons (pv 0) (pa_cons (pe_int) pa_nil))) (fun _ _ => rfl))))))
  (pss_nil))
  (pss_cons (ps_set (i := 5) scLawSpoilt.nd rfl (Or.inl rfl) (pcall GLawFar (hr.mono (by decide)) (by rfl) pass0 (pa_cons (pv 0) (pa_cons (pe_callB (call_len_seqK (K := K) rfl) (by rfl) m_len PySem.boot_len (pa_cons (pv 1) pa_nil)) pa_nil))))
  (pss_one (ps_ret (pe_op op_cat (pe_op op_cat (pe_slice sl_list (pv 1) po_none (po_some (pv 5))) (pcall GLawSpoiltStretch (hr.mono (by decide)) (by rfl) pass0 (pa_cons (pv 0) (pa_cons (pe_ix ix_list (pv 1) (pv 5) (fun _ _ => rfl)) (pa_cons (pv 2) pa_nil))))) (pe_slice sl_list (pv 1) (po_some (pe_op op_add (pv 5) (pe_int))) po_none))))))))), ?_⟩
    refine seq1_abs (fun σ H1 => ∃ kind : Int, σ = [some (.ref Pa), some (.ref ap), some (.int many), some (.int kind), none, none] ∧ Pst Pa H H1) (fun R hR => ?_) ?_
    · (try simp only [cx_K, cx_w, rIn, rMulS, CwR.tReplC, tM1, tBM0, rPop, rExtend, rReverse, rLenS, rEqE, rNeE, rSetL, rIntI, rIntB, tBM, rAppend, rIxL, rIxT, rCat, rSlL, rSlS, gTup, tYes, wipe, tSeq, tAsg, tIfS, tRet, tRetN, tDrop, tNext, tBreak, tCont, tNever, tAug, ipI, tPar, tPar3, gName, gCons, gNil, gSub, tVar, tC, tOp, tUn, tIf, tAndV, tOrV, tNotV, tAnd, tOr, tNot, L2.tB, tTest, tCmp, tChain, tCB, tCons, tNil, tCall, tCallS, tTup, tLst, tSl, tPart, tNoPart, rI, rI0, rU, rEq, rNe, scal_ii, scal_ss, scal_bb, scal_nn, scal_is, scal_si, rIxS, S_len, S_cps, S_inj, L2.start, List.map_cons, List.map_nil, List.cons_append, List.nil_append, List.append_nil, List.getElem?_cons_zero, List.getElem?_cons_succ, List.set_cons_zero, List.set_cons_succ, List.length_cons, List.length_nil, Nat.reduceAdd, Nat.reduceSub, List.replicate_succ, List.replicate_zero, Option.some.injEq, V.int.injEq, V.str.injEq, V.bl.injEq, V.ref.injEq, List.cons.injEq, and_true, true_and, exists_eq_left, exists_eq_left', exists_and_left, exists_eq, exists_eq', decide_eq_true_eq, Bool.not_eq_true', decide_eq_false_iff_not, Bool.false_eq_true, if_false, if_true, reduceIte, ite_self, CMul, CPow, CDiv])
      exact ⟨Pa, 12, rfl, hP, by decide, fun kind H1 k0 k1 st1 => hR _ _ ⟨kind, rfl, st1⟩⟩
    · rintro σ H1 ⟨kind, rfl, st1⟩
      have hPne := st1.pool.ne
      have ha1 := st1.kp.hide _ _ ha
      have hR1 := hR.mono st1.kp.hide
      have r_paper : Rep (hide [Pa] H1) (.lst (ps.map stpD)) (.ref ap) := ⟨ap, zs, rfl, ha1, hR1⟩
      have hps : ∀ n, smDs (n + 1) (ps.map stpD) = true := fun n => sm_ps hsm.bd
      have hpz : dsizes (ps.map stpD) = 5 * ps.length := ds_ps
      have hpl := hsm.len
      have hpz' : dsizes (ps.map stpD) ≤ 20000 := by omega
      have lint : ∀ {x : Int}, x.natAbs < 1000000000000 → ∀ n, smD n (.int x) = true := fun {x} h n => sm_int h n
      have ln : ∀ n, smD n .non = true := fun n => by cases n <;> rfl
      have slst : ∀ {es : List D}, smDs 4 es = true → dsizes es ≤ 20000 → SmO (some (.lst es)) := fun {es} h1 h2 d e => by
        cases e
        rw [sm_lst4, dsize]
        exact ⟨h1, by omega⟩
      refine seq_ifEq rfl (fun _ => ?_) (fun _ => ?_)
      · refine ret_pick (K := K) (H0 := H1) (n := 10) (givesO_cons (give_some give_non) (givesO_cons (give_some (give_tup hPne gives_nil (len_small (by rfl)))) (givesO_cons (give_dict hPne) (givesO_cons (give_some give_str) (givesO_cons (give_some give_int) (givesO_cons (give_some (give_tupOf hPne (gives_cons (give_var (i := 1) (by rfl) r_paper) gives_nil))) (givesO_cons (give_some (give_lst hPne (gives_cons (give_lst hPne gives_nil (len_small (by rfl))) gives_nil) (len_small (by rfl)))) (givesO_cons (give_some (give_lst hPne (gives_cons give_non gives_nil) (len_small (by rfl)))) (givesO_cons (give_some (give_lst hPne (gives_cons (give_tup hPne gives_nil (len_small (by rfl))) gives_nil) (len_small (by rfl)))) (givesO_cons (give_some (give_lst hPne (gives_cons (give_tup hPne (gives_cons give_int (gives_cons give_int gives_nil)) (len_small (by rfl))) gives_nil) (len_small (by rfl)))) givesO_nil)))))))))) rfl st1.pool (Same.refl _) rfl rfl (by decide) (by decide) ?q
        case q =>
          intro o v H' ho st hr
          refine q o v H' ?_ (st1.trans st) hr
          intro d hd
          have l1 := lint (x := 0) (by decide)
          have l2 := lint (x := 1) (by decide)
          have l8' : (decide (("" : Str).cps.toList.length ≤ 20) && ("" : Str).cps.toList.all (fun c => decide (c < 1114112))) = true := by decide +kernel
          have l8 : ∀ n, smD n (.str ("" : Str).cps.toList) = true := fun n => by cases n <;> exact l8'
          simp only [List.mem_cons, List.not_mem_nil, or_false] at ho
          rcases ho with rfl | rfl | rfl | rfl | rfl | rfl | rfl | rfl | rfl | rfl
          all_goals first
            | (cases hd; refine ⟨?_, ?_⟩; (simp only [smDs, sm_tup4, sm_lst4, l1, l2, l8, ln, Bool.and_true, hps]; try rfl); (simp only [dsizes, dsize, hpz]; omega))
            | cases hd
      refine seq_ifEq rfl (fun _ => ?_) (fun _ => ?_)
      · (try simp only [cx_K, cx_w, rIn, rMulS, CwR.tReplC, tM1, tBM0, rPop, rExtend, rReverse, rLenS, rEqE, rNeE, rSetL, rIntI, rIntB, tBM, rAppend, rIxL, rIxT, rCat, rSlL, rSlS, gTup, tYes, wipe, tSeq, tAsg, tIfS, tRet, tRetN, tDrop, tNext, tBreak, tCont, tNever, tAug, ipI, tPar, tPar3, gName, gCons, gNil, gSub, tVar, tC, tOp, tUn, tIf, tAndV, tOrV, tNotV, tAnd, tOr, tNot, L2.tB, tTest, tCmp, tChain, tCB, tCons, tNil, tCall, tCallS, tTup, tLst, tSl, tPart, tNoPart, rI, rI0, rU, rEq, rNe, scal_ii, scal_ss, scal_bb, scal_nn, scal_is, scal_si, rIxS, S_len, S_cps, S_inj, L2.start, List.map_cons, List.map_nil, List.cons_append, List.nil_append, List.append_nil, List.getElem?_cons_zero, List.getElem?_cons_succ, List.set_cons_zero, List.set_cons_succ, List.length_cons, List.length_nil, Nat.reduceAdd, Nat.reduceSub, List.replicate_succ, List.replicate_zero, Option.some.injEq, V.int.injEq, V.str.injEq, V.bl.injEq, V.ref.injEq, List.cons.injEq, and_true, true_and, exists_eq_left, exists_eq_left', exists_and_left, exists_eq, exists_eq', decide_eq_true_eq, Bool.not_eq_true', decide_eq_false_iff_not, Bool.false_eq_true, if_false, if_true, reduceIte, ite_self, CMul, CPow, CDiv])
        refine ⟨_, SqL.of (hide_sub _ _ ha1), fun p hp => ?_⟩
        obtain ⟨es, hes, hsub⟩ := cut_rep (lo := some 1) (hi := none) hR1
        exact q (some (.lst es)) (.ref p) _ (slst (sm_sub hsub (hps 3)) (Nat.le_trans (ds_sub hsub) hpz')) (st1.new hp) ⟨p, _, rfl, hide_new (st1.ne hp), hes.mono (Same.new hp).hide⟩
      refine seq_ifEq rfl (fun _ => ?_) (fun _ => ?_)
      · (try simp only [cx_K, cx_w, rIn, rMulS, CwR.tReplC, tM1, tBM0, rPop, rExtend, rReverse, rLenS, rEqE, rNeE, rSetL, rIntI, rIntB, tBM, rAppend, rIxL, rIxT, rCat, rSlL, rSlS, gTup, tYes, wipe, tSeq, tAsg, tIfS, tRet, tRetN, tDrop, tNext, tBreak, tCont, tNever, tAug, ipI, tPar, tPar3, gName, gCons, gNil, gSub, tVar, tC, tOp, tUn, tIf, tAndV, tOrV, tNotV, tAnd, tOr, tNot, L2.tB, tTest, tCmp, tChain, tCB, tCons, tNil, tCall, tCallS, tTup, tLst, tSl, tPart, tNoPart, rI, rI0, rU, rEq, rNe, scal_ii, scal_ss, scal_bb, scal_nn, scal_is, scal_si, rIxS, S_len, S_cps, S_inj, L2.start, List.map_cons, List.map_nil, List.cons_append, List.nil_append, List.append_nil, List.getElem?_cons_zero, List.getElem?_cons_succ, List.set_cons_zero, List.set_cons_succ, List.length_cons, List.length_nil, Nat.reduceAdd, Nat.reduceSub, List.replicate_succ, List.replicate_zero, Option.some.injEq, V.int.injEq, V.str.injEq, V.bl.injEq, V.ref.injEq, List.cons.injEq, and_true, true_and, exists_eq_left, exists_eq_left', exists_and_left, exists_eq, exists_eq', decide_eq_true_eq, Bool.not_eq_true', decide_eq_false_iff_not, Bool.false_eq_true, if_false, if_true, reduceIte, ite_self, CMul, CPow, CDiv])
        refine ⟨_, SqL.of (hide_sub _ _ ha1), fun p hp => ?_⟩
        obtain ⟨es, hes, hsub⟩ := cut_rep (lo := none) (hi := some (-1)) hR1
        exact q (some (.lst es)) (.ref p) _ (slst (sm_sub hsub (hps 3)) (Nat.le_trans (ds_sub hsub) hpz')) (st1.new hp) ⟨p, _, rfl, hide_new (st1.ne hp), hes.mono (Same.new hp).hide⟩
      refine seq_ifAbs (or_test (K := K) rfl rfl (hide_sub _ _ ha1) fun H2 s2 => ?_)
      have st2 := st1.same s2
      have ha2 := s2.hide _ _ ha1
      have hR2 := hR1.mono s2.hide
      refine ite2 (fun hc => ?_) (fun hc => ?_)
      · refine seq1_abs (fun σ H3 => ∃ (e : Addr) (es : List Int) (z : Int), σ = [some (.ref Pa), some (.ref ap), some (.int many), some (.int kind), some (.ref e), none] ∧ Same H2 H3 ∧ H3 e = some (.lst (es.map V.int)) ∧ es[0]? = some z ∧ z.natAbs < 999999999991) (fun R hR => ?_) ?_
        · (try simp only [cx_K, cx_w, rIn, rMulS, CwR.tReplC, tM1, tBM0, rPop, rExtend, rReverse, rLenS, rEqE, rNeE, rSetL, rIntI, rIntB, tBM, rAppend, rIxL, rIxT, rCat, rSlL, rSlS, gTup, tYes, wipe, tSeq, tAsg, tIfS, tRet, tRetN, tDrop, tNext, tBreak, tCont, tNever, tAug, ipI, tPar, tPar3, gName, gCons, gNil, gSub, tVar, tC, tOp, tUn, tIf, tAndV, tOrV, tNotV, tAnd, tOr, tNot, L2.tB, tTest, tCmp, tChain, tCB, tCons, tNil, tCall, tCallS, tTup, tLst, tSl, tPart, tNoPart, rI, rI0, rU, rEq, rNe, scal_ii, scal_ss, scal_bb, scal_nn, scal_is, scal_si, rIxS, S_len, S_cps, S_inj, L2.start, List.map_cons, List.map_nil, List.cons_append, List.nil_append, List.append_nil, List.getElem?_cons_zero, List.getElem?_cons_succ, List.set_cons_zero, List.set_cons_succ, List.length_cons, List.length_nil, Nat.reduceAdd, Nat.reduceSub, List.replicate_succ, List.replicate_zero, Option.some.injEq, V.int.injEq, V.str.injEq, V.bl.injEq, V.ref.injEq, List.cons.injEq, and_true, true_and, exists_eq_left, exists_eq_left', exists_and_left, exists_eq, exists_eq', decide_eq_true_eq, Bool.not_eq_true', decide_eq_false_iff_not, Bool.false_eq_true, if_false, if_true, reduceIte, ite_self, CMul, CPow, CDiv])
          refine ⟨by decide, fun q1 hq1 => ⟨q1, rfl, ⟨_, SqL.of upd_same⟩, fun D hD => lc_list (xs := [V.int 0]) (fun b H5 => Same (upd H2 q1 (.lst [V.int 0])) H5 ∧ H5 D = some (.lst ((if b = 0 then [] else lastS ps).map V.int))) ⟨Same.new hD, upd_same⟩ (fun b H5 _ h => SqL.of (h.1 _ _ upd_same)) (fun b x H5 hx hP => ?_) (fun H5 hP => ?_)⟩⟩
          · obtain ⟨s5, e5⟩ := hP
            have hb0 : b = 0 := by
              have := (List.getElem?_eq_some_iff.mp hx).1
              simp at this
              exact this
            subst hb0
            have e5 : H5 D = some (.lst []) := e5
            refine ⟨rfl, ?_⟩
            (try simp only [cx_K, cx_w, rIn, rMulS, CwR.tReplC, tM1, tBM0, rPop, rExtend, rReverse, rLenS, rEqE, rNeE, rSetL, rIntI, rIntB, tBM, rAppend, rIxL, rIxT, rCat, rSlL, rSlS, gTup, tYes, wipe, tSeq, tAsg, tIfS, tRet, tRetN, tDrop, tNext, tBreak, tCont, tNever, tAug, ipI, tPar, tPar3, gName, gCons, gNil, gSub, tVar, tC, tOp, tUn, tIf, tAndV, tOrV, tNotV, tAnd, tOr, tNot, L2.tB, tTest, tCmp, tChain, tCB, tCons, tNil, tCall, tCallS, tTup, tLst, tSl, tPart, tNoPart, rI, rI0, rU, rEq, rNe, scal_ii, scal_ss, scal_bb, scal_nn, scal_is, scal_si, rIxS, S_len, S_cps, S_inj, L2.start, List.map_cons, List.map_nil, List.cons_append, List.nil_append, List.append_nil, List.getElem?_cons_zero, List.getElem?_cons_succ, List.set_cons_zero, List.set_cons_succ, List.length_cons, List.length_nil, Nat.reduceAdd, Nat.reduceSub, List.replicate_succ, List.replicate_zero, Option.some.injEq, V.int.injEq, V.str.injEq, V.bl.injEq, V.ref.injEq, List.cons.injEq, and_true, true_and, exists_eq_left, exists_eq_left', exists_and_left, exists_eq, exists_eq', decide_eq_true_eq, Bool.not_eq_true', decide_eq_false_iff_not, Bool.false_eq_true, if_false, if_true, reduceIte, ite_self, CMul, CPow, CDiv])
            have s25 := (Same.new (o := .lst [V.int 0]) hq1).trans s5
            refine ⟨Nat.zero_le _, fun p hp => ⟨zs, SqL.of ((Same.new hp) _ _ (s25 _ _ (hide_sub _ _ ha2))), SqL.of upd_same, ite2 (fun hne => ?_) (fun hne => ?_)⟩⟩
            · have s2p : Same H2 (upd H5 p (.lst [])) := s25.trans (Same.new hp)
              have hzl := hR1.length
              rw [List.length_map] at hzl
              have hpos : 0 < zs.length := by
                cases zs with
                | nil => cases hne
                | cons => exact Nat.succ_pos _
              have hk : ps.length - 1 < ps.length := by omega
              have hkz : ps.length - 1 < zs.length := by omega
              obtain ⟨d, hd, rd⟩ := hR2.get (List.getElem?_eq_getElem hkz)
              rw [List.getElem?_map, List.getElem?_eq_getElem hk] at hd
              have hd : stpD ps[ps.length - 1] = d := Option.some.inj hd
              subst hd
              obtain ⟨t, ys, e, ht, _, _, rfl, rfl, x1, _, rfl, rx1, _⟩ := rd
              have rx1 : x1 = .int ps[ps.length - 1].stop := rx1
              subst rx1
              have hm : atI zs (-1) = some (.ref t) := by
                rw [← e, ← List.getElem?_eq_getElem hkz]
                unfold atI ixN
                rw [if_neg (by omega), if_pos (by omega)]
                show zs[_]? = _
                congr 1
                omega
              have hls : lastS ps = [ps[ps.length - 1].stop] := by
                unfold lastS
                rw [List.getLast?_eq_getElem?, List.getElem?_eq_getElem hk]
              refine ⟨zs, SqL.of (s2p _ _ (hide_sub _ _ ha2)), _, hm, t, rfl, _, SqT.of (s2p _ _ (hide_sub _ _ ht)), _, at_nat (i := 1) rfl, [], (Same.new hp) _ _ e5, by decide, (s5.trans (Same.new hp)).mut hD, ?_⟩
              rw [upd_same, if_neg (by decide), hls]
              rfl
            · refine ⟨s5.trans (Same.new hp), ?_⟩
              have hzl := hR1.length
              rw [List.length_map] at hzl
              have hz0 : zs = [] := by
                cases zs with
                | nil => rfl
                | cons => exact absurd rfl hne
              have hp0 : ps = [] := List.eq_nil_of_length_eq_zero (by rw [← hzl, hz0]; rfl)
              rw [if_neg (by decide), hp0, (Same.new hp) _ _ e5]
              rfl
          · obtain ⟨s5, e5⟩ := hP
            have e5 : H5 D = some (.lst ((lastS ps).map V.int)) := e5
            have hll : (lastS ps).length ≤ 1 := by unfold lastS; split <;> simp
            have s25 := (Same.new (o := .lst [V.int 0]) hq1).trans s5
            refine ⟨by decide, fun q3 hq3 => ⟨D, rfl, _, (Same.new hq3) _ _ e5, _, upd_same, by rw [List.length_map]; exact sz5 (by simp; omega), fun q4 hq4 => hR _ _ ⟨q4, lastS ps ++ [0], (lastS ps ++ [0]).head (by simp), rfl, (s25.trans (Same.new hq3)).trans (Same.new hq4), by rw [upd_same, List.map_append]; rfl, ?_, ?_⟩⟩⟩
            · rw [List.head_eq_getElem]
              exact List.getElem?_eq_getElem _
            · cases hl : ps.getLast? with
              | none =>
                have : lastS ps = [] := by unfold lastS; rw [hl]
                simp [this]
              | some s =>
                have : lastS ps = [s.stop] := by unfold lastS; rw [hl]
                have hb := (hsm.bd s (List.mem_of_getLast? hl)).2.1
                simp [this]
                omega
        · rintro σ H3 ⟨e, es, z, rfl, s3, ee, ez, hz⟩
          have hP3 := (st2.same s3).pool
          have hPne := hP3.ne
          have ha3 := s3.hide _ _ ha2
          have hR3 := hR2.mono s3.hide
          have ezi : atI (es.map V.int) 0 = some (.int z) := at_nat (i := 0) (by rw [List.getElem?_map, ez]; rfl)
          have r_end0 : Give Pa [some (.ref Pa), some (.ref ap), some (.int many), some (.int kind), some (.ref e), none] H3 (tOp (rIxL K) (tVar 4) (tC (.int 0))) (.int z) := give_ixL rfl ee ezi rfl
          show tOp _ _ _ _ _ _
          refine ⟨_, rfl, ?_⟩
          refine ret_pick (K := K) (H0 := H3) (n := 3) (givesO_cons (give_some (give_lst hPne (gives_cons (give_tup hPne (gives_cons r_end0 (gives_cons (give_add r_end0 give_int) (gives_cons give_int (gives_cons give_non gives_nil)))) (len_small (by rfl))) gives_nil) (len_small (by rfl)))) (givesO_cons (give_some (give_lst hPne (gives_cons (give_tup hPne (gives_cons r_end0 (gives_cons r_end0 (gives_cons give_non (gives_cons give_int gives_nil)))) (len_small (by rfl))) gives_nil) (len_small (by rfl)))) (givesO_cons (give_some (give_lst hPne (gives_cons give_non gives_nil) (len_small (by rfl)))) givesO_nil))) rfl hP3 (Same.refl _) rfl rfl (by decide) (by decide) ?q
          case q =>
            intro o v H' ho st hr
            have l0 := lint (x := 0) (by decide)
            have lz := lint (x := z) (by omega)
            have lz1 := lint (x := z + 1) (by omega)
            have key : ∃ ds, o = some (.lst ds) ∧ smDs 4 ds = true ∧ dsizes ds ≤ 20 := by
              simp only [List.mem_cons, List.not_mem_nil, or_false] at ho
              rcases ho with rfl | rfl | rfl <;> refine ⟨_, rfl, ?_, ?_⟩
              all_goals first
                | (simp only [smDs, sm_tup4, sm_lst4, l0, lz, lz1, ln, Bool.and_true])
                | (simp only [dsizes, dsize]; decide)
            obtain ⟨ds, rfl, h1, h2⟩ := key
            obtain ⟨b, xs, rfl, hb, hx⟩ := hr
            have hzl := hR1.length
            rw [List.length_map] at hzl
            have hxl := hx.length
            have hdl := len_dsizes ds
            have ha4 := st.kp.hide _ _ ha3
            refine ⟨ap, b, zs, xs, rfl, rfl, hide_sub _ _ ha4, hide_sub _ _ hb, sz5 (by omega), fun p hp => ?_⟩
            refine q (some (.lst (ps.map stpD ++ ds))) (.ref p) _ (slst (sm_app (hps 3) h1) (by rw [dsizes_app]; omega)) (((st2.same s3).trans st).new hp) ⟨p, _, rfl, hide_new (((st2.same s3).trans st).ne hp), ?_⟩
            exact ((hR3.mono st.kp.hide).append hx).mono (Same.new hp).hide
      · refine seq1_abs (fun σ H3 => ∃ (k : Nat), σ = [some (.ref Pa), some (.ref ap), some (.int many), some (.int kind), none, some (.int (k : Nat))] ∧ Pst Pa H2 H3 ∧ k < ps.length) (fun R hR => ?_) ?_
        · (try simp only [cx_K, cx_w, rIn, rMulS, CwR.tReplC, tM1, tBM0, rPop, rExtend, rReverse, rLenS, rEqE, rNeE, rSetL, rIntI, rIntB, tBM, rAppend, rIxL, rIxT, rCat, rSlL, rSlS, gTup, tYes, wipe, tSeq, tAsg, tIfS, tRet, tRetN, tDrop, tNext, tBreak, tCont, tNever, tAug, ipI, tPar, tPar3, gName, gCons, gNil, gSub, tVar, tC, tOp, tUn, tIf, tAndV, tOrV, tNotV, tAnd, tOr, tNot, L2.tB, tTest, tCmp, tChain, tCB, tCons, tNil, tCall, tCallS, tTup, tLst, tSl, tPart, tNoPart, rI, rI0, rU, rEq, rNe, scal_ii, scal_ss, scal_bb, scal_nn, scal_is, scal_si, rIxS, S_len, S_cps, S_inj, L2.start, List.map_cons, List.map_nil, List.cons_append, List.nil_append, List.append_nil, List.getElem?_cons_zero, List.getElem?_cons_succ, List.set_cons_zero, List.set_cons_succ, List.length_cons, List.length_nil, Nat.reduceAdd, Nat.reduceSub, List.replicate_succ, List.replicate_zero, Option.some.injEq, V.int.injEq, V.str.injEq, V.bl.injEq, V.ref.injEq, List.cons.injEq, and_true, true_and, exists_eq_left, exists_eq_left', exists_and_left, exists_eq, exists_eq', decide_eq_true_eq, Bool.not_eq_true', decide_eq_false_iff_not, Bool.false_eq_true, if_false, if_true, reduceIte, ite_self, CMul, CPow, CDiv])
          have hne : 0 < zs.length := by
            cases zs with
            | nil => exact absurd (show (([] : List V).isEmpty || decide (kind = 3)) = true from rfl) hc
            | cons a l => exact Nat.succ_pos _
          refine ⟨zs, .inl (SqL.of (hide_sub _ _ ha2)), Pa, _, rfl, st2.pool, by omega, fun k H3 k0 k1 st3 => ?_⟩
          obtain ⟨m, rfl⟩ := Int.eq_ofNat_of_zero_le k0
          have hzl := hR1.length
          rw [List.length_map] at hzl
          exact hR _ _ ⟨m, rfl, st3, by omega⟩
        · rintro σ H3 ⟨k, rfl, st3, hk⟩
          have st03 := st2.trans st3
          have ha3 := st3.kp.hide _ _ ha2
          have hR3 := hR2.mono st3.kp.hide
          have hzl := hR1.length
          rw [List.length_map] at hzl
          (try simp only [cx_K, cx_w, rIn, rMulS, CwR.tReplC, tM1, tBM0, rPop, rExtend, rReverse, rLenS, rEqE, rNeE, rSetL, rIntI, rIntB, tBM, rAppend, rIxL, rIxT, rCat, rSlL, rSlS, gTup, tYes, wipe, tSeq, tAsg, tIfS, tRet, tRetN, tDrop, tNext, tBreak, tCont, tNever, tAug, ipI, tPar, tPar3, gName, gCons, gNil, gSub, tVar, tC, tOp, tUn, tIf, tAndV, tOrV, tNotV, tAnd, tOr, tNot, L2.tB, tTest, tCmp, tChain, tCB, tCons, tNil, tCall, tCallS, tTup, tLst, tSl, tPart, tNoPart, rI, rI0, rU, rEq, rNe, scal_ii, scal_ss, scal_bb, scal_nn, scal_is, scal_si, rIxS, S_len, S_cps, S_inj, L2.start, List.map_cons, List.map_nil, List.cons_append, List.nil_append, List.append_nil, List.getElem?_cons_zero, List.getElem?_cons_succ, List.set_cons_zero, List.set_cons_succ, List.length_cons, List.length_nil, Nat.reduceAdd, Nat.reduceSub, List.replicate_succ, List.replicate_zero, Option.some.injEq, V.int.injEq, V.str.injEq, V.bl.injEq, V.ref.injEq, List.cons.injEq, and_true, true_and, exists_eq_left, exists_eq_left', exists_and_left, exists_eq, exists_eq', decide_eq_true_eq, Bool.not_eq_true', decide_eq_false_iff_not, Bool.false_eq_true, if_false, if_true, reduceIte, ite_self, CMul, CPow, CDiv])
          refine ⟨zs, SqL.of (hide_sub _ _ ha3), fun p hp => ?_⟩
          have s4 : Same H3 (upd H3 p (.lst (cutV zs none (some (k : Int))))) := Same.new hp
          have hkz : k < zs.length := by omega
          refine ⟨zs, SqL.of (s4 _ _ (hide_sub _ _ ha3)), _, at_nat (List.getElem?_eq_getElem hkz), ?_⟩
          obtain ⟨d, hd, rd⟩ := hR3.get (List.getElem?_eq_getElem hkz)
          rw [List.getElem?_map, List.getElem?_eq_getElem hk] at hd
          have hd : stpD ps[k] = d := Option.some.inj hd
          subst hd
          obtain ⟨b1, b2, b3, b4⟩ := hsm.bd ps[k] (List.getElem_mem hk)
          obtain ⟨t, ys, e, ht, _, _, rfl, rfl, _, _, rfl, rfl, x2, _, rfl, r2, x3, _, rfl, r3, rfl⟩ := rd
          rw [e]
          have e2 : x2 = noV ps[k].i := rep_opt_eq r2
          have e3 : x3 = noV ps[k].j := rep_opt_eq r3
          subst e2 e3
          have npP := st03.ne hp
          have hsm4 : smDs 1 [.int ps[k].row, .int ps[k].stop, optD ps[k].i, optD ps[k].j] = true := by
            rw [smDs, smDs, smDs, smDs, smDs, sm_int (by omega), sm_int (by omega), sm_opt b3, sm_opt b4]
            rfl
          obtain ⟨es1, hes1, hsub1⟩ := cut_rep (lo := none) (hi := some (k : Int)) hR3
          obtain ⟨es2, hes2, hsub2⟩ := cut_rep (lo := some ((k : Int) + 1)) (hi := none) hR3
          refine ⟨Pa, t, _, _, _, _, many, rfl, (st03.new hp).pool, s4 _ _ (hide_sub _ _ ht), hm0, hm1, hsm4, b1, b2, fun ds a xs H5 h1 h2 st5 ha5 hx5 => ?_⟩
          have st35 : Pst Pa H3 H5 := ((Pst.refl st03.pool).new hp).trans st5
          have hl1 := hes1.length
          have hl2 := hes2.length
          have hl3 := hx5.length
          have hd1 := hsub1.length_le
          have hd2 := hsub2.length_le
          have hd3 := len_dsizes ds
          rw [List.length_map] at hd1 hd2
          refine ⟨a, rfl, _, st5.kp p _ npP upd_same, xs, hide_sub _ _ ha5, sz5 (by omega), fun p2 hp2 => ⟨zs, SqL.of ((Same.new hp2) _ _ (hide_sub _ _ (st35.kp.hide _ _ ha3))), fun p3 hp3 => ⟨_, (Same.new hp3) _ _ upd_same, _, upd_same, by rw [List.length_append]; exact sz5 (by omega), fun p4 hp4 => ?_⟩⟩⟩
          have st05 := st03.trans st35
          have sx := ((Same.new (o := .lst (cutV zs none (some (k : Int)) ++ xs)) hp2).trans (Same.new (o := .lst (cutV zs (some ((k : Int) + 1)) none)) hp3)).trans (Same.new (o := .lst (cutV zs none (some (k : Int)) ++ xs ++ cutV zs (some ((k : Int) + 1)) none)) hp4)
          have np4 := ((st05.new (o := .lst (cutV zs none (some (k : Int)) ++ xs)) hp2).new (o := .lst (cutV zs (some ((k : Int) + 1)) none)) hp3).ne hp4
          have hz1 := ds_sub hsub1
          have hz2 := ds_sub hsub2
          refine q (some (.lst (es1 ++ ds ++ es2))) (.ref p4) _ (slst (sm_app (sm_app (sm_sub hsub1 (hps 3)) h1) (sm_sub hsub2 (hps 3))) (by rw [dsizes_app, dsizes_app]; omega)) (st05.same sx) ⟨p4, _, rfl, hide_new np4, ?_⟩
          exact (((hes1.mono st35.kp.hide).append hx5).append (hes2.mono st35.kp.hide)).mono sx.hide
end
end K92


namespace K92
open PySem PySem.Spec PyProof.Rows L2 KB
section
variable {P : Program} {w : World} {K : PySem.W.Frag} {mg : Str → Option Value} {base : Heap}
theorem asFl_eq {s : List Nat} {l r t b : Int} : asFl (.tup [.str s, .int l, .int r, .int t, .int b]) = if s = sideT true then (if l ≤ r ∧ t ≤ b then some ⟨true, l, r, t, b⟩ else none) else if s = sideT false then (if l ≤ r ∧ t ≤ b then some ⟨false, l, r, t, b⟩ else none) else none := rfl
theorem asFl_bad {s : List Nat} {l r t b : Int} (h : ¬ (l ≤ r ∧ t ≤ b)) : asFl (.tup [.str s, .int l, .int r, .int t, .int b]) = none := by
  rw [asFl_eq, if_neg h, if_neg h]
  split
  · rfl
  · split <;> rfl
theorem asFl_side {s : List Nat} {l r t b : Int} (h1 : s ≠ sideT true) (h2 : s ≠ sideT false) : asFl (.tup [.str s, .int l, .int r, .int t, .int b]) = none := by
  rw [asFl_eq, if_neg h1, if_neg h2]
theorem seq_asg {te : TE} {i : Nat} {R : TS} {D : Ends} {σ : L2.St} {H : Hp} (h : te σ H fun v H1 => R D (σ.set i (some v)) H1) : tSeq (tAsg te (gName i)) R D σ H := h
def spNoFloat : Sp := fun vs H Q _ => ∃ Pa t f, vs = [.ref Pa, .ref t] ∧ PoolAt Pa H ∧ Rep (hide [Pa] H) (flD f) (.ref t) ∧ ∀ d v H', asFl d = none → Pst Pa H H' → Rep (hide [Pa] H') d v → Q v H'
theorem okNoFloat (T : Top K w mg) : Ok P w K mg base CX0 2 "_law_no_float" ["pool", "one"] spNoFloat := by
  have GLawPick : Ok P w K mg base CX0 1 "_law_pick" ["pool", "many"] spPick := okPick T
  have m_list := T.m_list
  have m_max := T.m_max
  refine mkOk T.f__law_no_float scLawNoFloat (fun vs H Q E h => ?_) (fun f cdv A outer s H vs Q E hr h => ?_)
  · obtain ⟨_, _, _, rfl, _⟩ := h
    rfl
  · obtain ⟨Pa, t, f, rfl, hP, hF, q⟩ := h
    refine ⟨_, pss_cons (ps_asg (pv 1) (pg_tup (n := 5) rfl (pgs_cons (pg_name (i := 2) scLawNoFloat.nd rfl (Or.inl rfl)) (pgs_cons (pg_name (i := 3) scLawNoFloat.nd rfl (Or.inl rfl)) (pgs_cons (pg_name (i := 4) scLawNoFloat.nd rfl (Or.inl rfl)) (pgs_cons (pg_name (i := 5) scLawNoFloat.nd rfl (Or.inl rfl)) (pgs_cons (pg_name (i := 6) scLawNoFloat.nd rfl (Or.inl rfl)) pgs_nil)))))))
  (pss_one (ps_ret (pe_ix ix_list (pe_lst (pa_cons (pe_tup (pa_cons (pe_str) (pa_cons (pv 3) (pa_cons (pv 4) (pa_cons (pv 5) (pa_cons (pv 6) pa_nil)))))) (pa_cons (pe_tup (pa_cons (pe_non) (pa_cons (pv 3) (pa_cons (pv 4) (pa_cons (pv 5) (pa_cons (pv 6) pa_nil)))))) (pa_cons (pe_tup (pa_cons (pv 2) (pa_cons (pe_op op_add (pv 4) (pe_int)) (pa_cons (pv 4) (pa_cons (pv 5) (pa_cons (pv 6) pa_nil)))))) (pa_cons (pe_tup (pa_cons (pv 2) (pa_cons (pv 3) (pa_cons (pv 4) (pa_cons (pe_op op_add (pv 6) (pe_int)) (pa_cons (pv 6) pa_nil)))))) (pa_cons (pe_tup (pa_cons (pv 2) (pa_cons (pv 3) (pa_cons (pv 4) (pa_cons (pv 5) pa_nil))))) (pa_cons (pe_tup (pa_cons (pv 2) (pa_cons (pv 3) (pa_cons (pv 4) (pa_cons (pv 5) (pa_cons (pv 6) (pa_cons (pe_int) pa_nil))))))) (pa_cons (pe_callTy call_lstN (by rfl) m_list (by decide +kernel) (pa_cons (pv 1) pa_nil)) (pa_cons (pe_tup (pa_cons (pv 2) (pa_cons (pe_non) (pa_cons (pv 4) (pa_cons (pv 5) (pa_cons (pv 6) pa_nil)))))) (pa_cons (pe_tup (pa_cons (pv 2) (pa_cons (pv 3) (pa_cons (pe_str) (pa_cons (pv 5) (pa_cons (pv 6) pa_nil)))))) (pa_cons (pe_tup (pa_cons (pv 2) (pa_cons (pv 3) (pa_cons (pv 4) (pa_cons (pv 5) (pa_cons (pe_non) pa_nil)))))) (pa_cons (pe_non) (pa_cons (pe_tup (pa_nil)) (pa_cons (pv 2) (pa_cons (pe_tup (pa_cons (pv 2) (pa_cons (pv 3) (pa_cons (pv 4) (pa_cons (pe_bl) (pa_cons (pe_callB (call_maxN rfl) (by rfl) m_max (by decide +kernel) (pa_cons (pe_int) (pa_cons (pv 6) pa_nil))) pa_nil)))))) pa_nil))))))))))))))) (pcall GLawPick (hr.mono (by decide)) (by rfl) pass0 (pa_cons (pv 0) (pa_cons (pe_int) pa_nil))) (fun _ _ => rfl)))), ?_⟩
    have hF' := hF
    obtain ⟨t', ys, et, ht, _, _, rfl, rfl, _, _, rfl, rfl, _, _, rfl, rfl, _, _, rfl, rfl, _, _, rfl, rfl, rfl⟩ := hF'
    cases et
    refine seq1_abs (fun σ H1 => σ = [some (.ref Pa), some (.ref t), some (.str (S (sideT f.left))), some (.int f.l), some (.int f.r), some (.int f.t), some (.int f.b)] ∧ H1 = H) (fun R hR => ?_) ?_
    · (try simp only [cx_K, cx_w, rIn, rMulS, CwR.tReplC, tM1, tBM0, rPop, rExtend, rReverse, rLenS, rEqE, rNeE, rSetL, rIntI, rIntB, tBM, rAppend, rIxL, rIxT, rCat, rSlL, rSlS, gTup, tYes, wipe, tSeq, tAsg, tIfS, tRet, tRetN, tDrop, tNext, tBreak, tCont, tNever, tAug, ipI, tPar, tPar3, gName, gCons, gNil, gSub, tVar, tC, tOp, tUn, tIf, tAndV, tOrV, tNotV, tAnd, tOr, tNot, L2.tB, tTest, tCmp, tChain, tCB, tCons, tNil, tCall, tCallS, tTup, tLst, tSl, tPart, tNoPart, rI, rI0, rU, rEq, rNe, scal_ii, scal_ss, scal_bb, scal_nn, scal_is, scal_si, rIxS, S_len, S_cps, S_inj, L2.start, List.map_cons, List.map_nil, List.cons_append, List.nil_append, List.append_nil, List.getElem?_cons_zero, List.getElem?_cons_succ, List.set_cons_zero, List.set_cons_succ, List.length_cons, List.length_nil, Nat.reduceAdd, Nat.reduceSub, List.replicate_succ, List.replicate_zero, Option.some.injEq, V.int.injEq, V.str.injEq, V.bl.injEq, V.ref.injEq, List.cons.injEq, and_true, true_and, exists_eq_left, exists_eq_left', exists_and_left, exists_eq, exists_eq', decide_eq_true_eq, Bool.not_eq_true', decide_eq_false_iff_not, Bool.false_eq_true, if_false, if_true, reduceIte, ite_self, CMul, CPow, CDiv])
      exact ⟨_, SqT.of (hide_sub _ _ ht), rfl, _, _, rfl, _, _, rfl, _, _, rfl, _, _, rfl, _, _, rfl, rfl, hR _ _ ⟨rfl, rfl⟩⟩
    · rintro σ H1 ⟨rfl, rfl⟩
      have hPne := hP.ne
      have r_one : Rep (hide [Pa] H1) (.tup [.str (sideT f.left), .int f.l, .int f.r, .int f.t, .int f.b]) (.ref t) := hF
      have r_side : Rep (hide [Pa] H1) (.str (sideT f.left)) (.str (S (sideT f.left))) := rfl
      have r_left : Rep (hide [Pa] H1) (.int f.l) (.int f.l) := rfl
      have r_right : Rep (hide [Pa] H1) (.int f.r) (.int f.r) := rfl
      have r_top : Rep (hide [Pa] H1) (.int f.t) (.int f.t) := rfl
      have r_bottom : Rep (hide [Pa] H1) (.int f.b) (.int f.b) := rfl
      show tOp _ _ _ _ _ _
      refine ret_pick (K := K) (H0 := H1) (n := 14) (givesO_cons (give_some (give_tup hPne (gives_cons give_str (gives_cons (give_var (i := 3) (by rfl) r_left) (gives_cons (give_var (i := 4) (by rfl) r_right) (gives_cons (give_var (i := 5) (by rfl) r_top) (gives_cons (give_var (i := 6) (by rfl) r_bottom) gives_nil))))) (len_small (by rfl)))) (givesO_cons (give_some (give_tup hPne (gives_cons give_non (gives_cons (give_var (i := 3) (by rfl) r_left) (gives_cons (give_var (i := 4) (by rfl) r_right) (gives_cons (give_var (i := 5) (by rfl) r_top) (gives_cons (give_var (i := 6) (by rfl) r_bottom) gives_nil))))) (len_small (by rfl)))) (givesO_cons (give_some (give_tup hPne (gives_cons (give_var (i := 2) (by rfl) r_side) (gives_cons (give_add (give_var (i := 4) (by rfl) r_right) give_int) (gives_cons (give_var (i := 4) (by rfl) r_right) (gives_cons (give_var (i := 5) (by rfl) r_top) (gives_cons (give_var (i := 6) (by rfl) r_bottom) gives_nil))))) (len_small (by rfl)))) (givesO_cons (give_some (give_tup hPne (gives_cons (give_var (i := 2) (by rfl) r_side) (gives_cons (give_var (i := 3) (by rfl) r_left) (gives_cons (give_var (i := 4) (by rfl) r_right) (gives_cons (give_add (give_var (i := 6) (by rfl) r_bottom) give_int) (gives_cons (give_var (i := 6) (by rfl) r_bottom) gives_nil))))) (len_small (by rfl)))) (givesO_cons (give_some (give_tup hPne (gives_cons (give_var (i := 2) (by rfl) r_side) (gives_cons (give_var (i := 3) (by rfl) r_left) (gives_cons (give_var (i := 4) (by rfl) r_right) (gives_cons (give_var (i := 5) (by rfl) r_top) gives_nil)))) (len_small (by rfl)))) (givesO_cons (give_some (give_tup hPne (gives_cons (give_var (i := 2) (by rfl) r_side) (gives_cons (give_var (i := 3) (by rfl) r_left) (gives_cons (give_var (i := 4) (by rfl) r_right) (gives_cons (give_var (i := 5) (by rfl) r_top) (gives_cons (give_var (i := 6) (by rfl) r_bottom) (gives_cons give_int gives_nil)))))) (len_small (by rfl)))) (givesO_cons (give_some (give_listOf hPne (gives_cons (give_var (i := 1) (by rfl) r_one) gives_nil))) (givesO_cons (give_some (give_tup hPne (gives_cons (give_var (i := 2) (by rfl) r_side) (gives_cons give_non (gives_cons (give_var (i := 4) (by rfl) r_right) (gives_cons (give_var (i := 5) (by rfl) r_top) (gives_cons (give_var (i := 6) (by rfl) r_bottom) gives_nil))))) (len_small (by rfl)))) (givesO_cons (give_some (give_tup hPne (gives_cons (give_var (i := 2) (by rfl) r_side) (gives_cons (give_var (i := 3) (by rfl) r_left) (gives_cons give_str (gives_cons (give_var (i := 5) (by rfl) r_top) (gives_cons (give_var (i := 6) (by rfl) r_bottom) gives_nil))))) (len_small (by rfl)))) (givesO_cons (give_some (give_tup hPne (gives_cons (give_var (i := 2) (by rfl) r_side) (gives_cons (give_var (i := 3) (by rfl) r_left) (gives_cons (give_var (i := 4) (by rfl) r_right) (gives_cons (give_var (i := 5) (by rfl) r_top) (gives_cons give_non gives_nil))))) (len_small (by rfl)))) (givesO_cons (give_some give_non) (givesO_cons (give_some (give_tup hPne gives_nil (len_small (by rfl)))) (givesO_cons (give_some (give_var (i := 2) (by rfl) r_side)) (givesO_cons (give_some (give_tup hPne (gives_cons (give_var (i := 2) (by rfl) r_side) (gives_cons (give_var (i := 3) (by rfl) r_left) (gives_cons (give_var (i := 4) (by rfl) r_right) (gives_cons give_bl (gives_cons (give_max (gives_cons give_int (gives_cons (give_var (i := 6) (by rfl) r_bottom) gives_nil))) gives_nil))))) (len_small (by rfl)))) givesO_nil)))))))))))))) rfl hP (Same.refl _) rfl rfl (by decide) (by decide) ?q
      case q =>
        intro o v H' ho st hr
        have key : ∃ d, o = some d ∧ asFl d = none := by
          have ht1 : ("top" : Str).cps.toList ≠ sideT true := by decide +kernel
          have ht2 : ("top" : Str).cps.toList ≠ sideT false := by decide +kernel
          simp only [List.mem_cons, List.not_mem_nil, or_false] at ho
          rcases ho with rfl | rfl | rfl | rfl | rfl | rfl | rfl | rfl | rfl | rfl | rfl | rfl | rfl | rfl <;> refine ⟨_, rfl, ?_⟩
          all_goals first
            | rfl
            | exact asFl_side ht1 ht2
            | exact asFl_bad (by omega)
        obtain ⟨d, rfl, hd⟩ := key
        exact q d v H' hd st hr
theorem asFls_none : ∀ {ds : List D} {d : D}, d ∈ ds → asFl d = none → asFls ds = none
  | e :: ds, d, h, hd => by
    rw [asFls]
    cases h with
    | head => rw [hd]
    | tail _ h =>
      rw [asFls_none h hd]
      cases asFl e <;> rfl
theorem areFl_none {ds : List D} {d : D} (h : d ∈ ds) (hd : asFl d = none) : areFl (.lst ds) = false := by
  show (match asFls ds with | some F => sortedT F | none => false) = false
  rw [asFls_none h hd]
theorem asFls_app : ∀ {as bs : List D} {G : List Fl}, asFls (as ++ bs) = some G → ∃ A B, asFls as = some A ∧ asFls bs = some B ∧ G = A ++ B
  | [], bs, G, h => ⟨[], G, rfl, h, rfl⟩
  | d :: as, bs, G, h => by
    rw [List.cons_append, asFls] at h
    cases h1 : asFl d with
    | none =>
      rw [h1] at h
      cases h2 : asFls (as ++ bs) <;> (rw [h2] at h; cases h)
    | some f =>
      cases h2 : asFls (as ++ bs) with
      | none => rw [h1, h2] at h; cases h
      | some G' =>
        rw [h1, h2] at h
        obtain ⟨A, B, a, b, e⟩ := asFls_app h2
        refine ⟨f :: A, B, ?_, b, ?_⟩
        · rw [asFls, h1, a]
        · rw [← Option.some.inj h, e]
          rfl
theorem unsorted : ∀ {A : List Fl} {f g : Fl}, g.t < f.t → sortedT (A ++ [f, g]) = false
  | [], f, g, h => by
    show (decide (f.t ≤ g.t) && sortedT [g]) = false
    rw [decide_eq_false (by omega), Bool.false_and]
  | [a], f, g, h => by
    show (decide (a.t ≤ f.t) && sortedT ([] ++ [f, g])) = false
    rw [unsorted h, Bool.and_false]
  | a :: b :: A, f, g, h => by
    show (decide (a.t ≤ b.t) && sortedT ((b :: A) ++ [f, g])) = false
    rw [unsorted h, Bool.and_false]
/-- two floats behind others, the second one with a top ahead of the first one's -/
theorem areFl_tops {ds : List D} {f g : Fl} (h : g.t < f.t) : areFl (.lst (ds ++ [flD f, flD g])) = false := by
  show (match asFls (ds ++ [flD f, flD g]) with | some F => sortedT F | none => false) = false
  cases hc : asFls (ds ++ [flD f, flD g]) with
  | none => rfl
  | some G =>
    obtain ⟨A, B, _, hB, rfl⟩ := asFls_app hc
    have : [flD f, flD g] = [f, g].map flD := rfl
    rw [this] at hB
    rw [asFls_fls hB]
    exact unsorted h
/-- what none of the functions takes as a number from 0 on -/
def NoNum (o : Option D) : Prop := isCountO o = false
structure CallR' (H : Hp) (Pa : Addr) (F : List Fl) (width c wide : Int) (left : Bool) (vs : List V) : Prop where
  val : ∃ a, vs = [.ref a, .int width, .int c, .int wide, .str (S (sideT left))] ∧ Rep (hide [Pa] H) (flsD F) (.ref a)
theorem bad_fl {H : Hp} {a : V} {o0 : Option D} {width c wide : Int} {left : Bool} (h : RepO H o0 a) (hl : ∀ ds, o0 = some (.lst ds) → ds.length ≤ 1000) (hb : areFlO o0 = false) : Bad5 H [a, .int width, .int c, .int wide, .str (S (sideT left))] :=
  ⟨_, _, _, _, _, o0, some (.int width), some (.int c), some (.int wide), some (.str (sideT left)), rfl, h, hl, rfl, rfl, rfl, rfl, by unfold fine5 ok3; rw [hb, Bool.false_and, Bool.false_and]⟩
def spWrong : Sp := fun vs H Q _ => ∃ Pa c a F width ce wide left, vs = [.ref Pa, .ref c] ∧ PoolAt Pa H ∧ H c = some (.tup [.ref a, .int width, .int ce, .int wide, .str (S (sideT left))]) ∧ Rep (hide [Pa] H) (flsD F) (.ref a) ∧ F.length ≤ 100 ∧ 0 ≤ width ∧ 0 ≤ wide ∧
  ∀ t vs5 H', Bad5 H' vs5 → Pst Pa H H' → H' t = some (.tup vs5) → Q (.ref t) H'
theorem okWrong (T : Top K w mg) : Ok P w K mg base CX0 3 "_law_wrong" ["pool", "call"] spWrong := by
  have GLawPick : Ok P w K mg base CX0 1 "_law_pick" ["pool", "many"] spPick := okPick T
  have GLawFar : Ok P w K mg base CX0 2 "_law_far" ["pool", "many"] spFar := okFar T
  have GLawNoFloat : Ok P w K mg base CX0 2 "_law_no_float" ["pool", "one"] spNoFloat := okNoFloat T
  have m_tuple := T.m_tuple
  have m_len := T.m_len
  refine mkOk T.f__law_wrong scLawWrong (fun vs H Q E h => ?_) (fun f cdv A outer s H vs Q E hr h => ?_)
  · obtain ⟨_, _, _, _, _, _, _, _, rfl, _⟩ := h
    rfl
  · obtain ⟨Pa, c, a, F, width, ce, wide, left, rfl, hP, hc, hF, hn, hw, hwd, q⟩ := h
    refine ⟨_, pss_cons (ps_asg (pv 1) (pg_tup (n := 5) rfl (pgs_cons (pg_name (i := 2) scLawWrong.nd rfl (Or.inl rfl)) (pgs_cons (pg_name (i := 3) scLawWrong.nd rfl (Or.inl rfl)) (pgs_cons (pg_name (i := 4) scLawWrong.nd rfl (Or.inl rfl)) (pgs_cons (pg_name (i := 5) scLawWrong.nd rfl (Or.inl rfl)) (pgs_cons (pg_name (i := 6) scLawWrong.nd rfl (Or.inl rfl)) pgs_nil)))))))
  (pss_cons (ps_par (i := 7) (j := 8) rfl scLawWrong.nd rfl rfl (by decide) rfl rfl (pa_cons (pcall GLawPick (hr.mono (by decide)) (by rfl) pass0 (pa_cons (pv 0) (pa_cons (pe_int) pa_nil))) (pa_cons (pcall GLawFar (hr.mono (by decide)) (by rfl) pass0 (pa_cons (pv 0) (pa_cons (pe_op op_add (pe_callB (call_len_seqK (K := K) rfl) (by rfl) m_len PySem.boot_len (pa_cons (pv 2) pa_nil)) (pe_int)) pa_nil))) pa_nil)) (by rfl))
  (pss_cons (ps_set (i := 9) scLawWrong.nd rfl (Or.inl rfl) (pe_ix ix_list (pe_lst (pa_cons (pe_non) (pa_cons (pe_bl) (pa_cons (pe_str) (pa_cons (pe_tup (pa_nil)) (pa_cons (pe_lst (pa_cons (pe_int) pa_nil)) (pa_cons (pe_bl) pa_nil))))))) (pcall GLawPick (hr.mono (by decide)) (by rfl) pass0 (pa_cons (pv 0) (pa_cons (pe_int) pa_nil))) (fun _ _ => rfl)))
  (pss_cons (ps_if (pt_cmpR op_lt (pv 7) (pe_int) (nomark _))
  (pss_cons (ps_set (i := 10) scLawWrong.nd rfl (Or.inl rfl) (pe_ix ix_list (pe_op op_cat (pv 2) (pe_lst (pa_cons (pe_tup (pa_cons (pe_str) (pa_cons (pe_int) (pa_cons (pe_int) (pa_cons (pe_int) (pa_cons (pe_int) pa_nil)))))) pa_nil))) (pv 8) (fun _ _ => rfl)))
  (pss_one (ps_ret (pe_tup (pa_cons (pe_op op_cat (pe_op op_cat (pe_slice sl_list (pv 2) po_none (po_some (pv 8))) (pe_lst (pa_cons (pcall GLawNoFloat (hr.mono (by decide)) (by rfl) pass0 (pa_cons (pv 0) (pa_cons (pv 10) pa_nil))) pa_nil))) (pe_slice sl_list (pv 2) (po_some (pe_op op_add (pv 8) (pe_int))) po_none)) (pa_cons (pv 3) (pa_cons (pv 4) (pa_cons (pv 5) (pa_cons (pv 6) pa_nil)))))))))
  (pss_nil))
  (pss_cons (ps_if (pt_cmpR op_eq (pv 7) (pe_int) (nomark _))
  (pss_cons (ps_set (i := 11) scLawWrong.nd rfl (Or.inl rfl) (pe_ix ix_list (pe_op op_cat (pv 2) (pe_lst (pa_cons (pe_tup (pa_cons (pe_str) (pa_cons (pe_int) (pa_cons (pe_int) (pa_cons (pe_int) (pa_cons (pe_int) pa_nil)))))) pa_nil))) (pe_op op_sub (pe_callB (call_len_seqK (K := K) rfl) (by rfl) m_len PySem.boot_len (pa_cons (pv 2) pa_nil)) (pe_int)) (fun _ _ => rfl)))
  (pss_cons (ps_set (i := 12) scLawWrong.nd rfl (Or.inl rfl) (pe_lst (pa_cons (pe_tup (pa_cons (pe_ix ix_list (pe_lst (pa_cons (pe_str) (pa_cons (pe_str) pa_nil))) (pcall GLawPick (hr.mono (by decide)) (by rfl) pass0 (pa_cons (pv 0) (pa_cons (pe_int) pa_nil))) (fun _ _ => rfl)) (pa_cons (pe_int) (pa_cons (pe_int) (pa_cons (pe_op op_sub (pe_ix ix_tup (pv 11) (pe_int) (fun _ _ => rfl)) (pe_int)) (pa_cons (pe_op op_add (pe_ix ix_tup (pv 11) (pe_int) (fun _ _ => rfl)) (pe_int)) pa_nil)))))) pa_nil)))
  (pss_one (ps_ret (pe_tup (pa_cons (pe_ix ix_list (pe_lst (pa_cons (pe_callTy call_tupN (by rfl) m_tuple (by decide +kernel) (pa_cons (pv 2) pa_nil)) (pa_cons (pe_non) (pa_cons (pe_dnewK) (pa_cons (pe_str) (pa_cons (pe_op op_cat (pe_op op_cat (pv 2) (pe_lst (pa_cons (pv 11) pa_nil))) (pv 12)) (pa_cons (pe_op op_cat (pe_lst (pa_cons (pv 11) pa_nil)) (pv 12)) pa_nil))))))) (pcall GLawPick (hr.mono (by decide)) (by rfl) pass0 (pa_cons (pv 0) (pa_cons (pe_int) pa_nil))) (fun _ _ => rfl)) (pa_cons (pv 3) (pa_cons (pv 4) (pa_cons (pv 5) (pa_cons (pv 6) pa_nil))))))))))
  (pss_nil))
  (pss_cons (ps_if (pt_cmpR op_eq (pv 7) (pe_int) (nomark _))
  (pss_one (ps_ret (pe_tup (pa_cons (pv 2) (pa_cons (pe_ix ix_list (pe_lst (pa_cons (pv 9) (pa_cons (pe_op op_sub (pe_int) (pe_int)) (pa_cons (pe_op op_sub (pe_op op_sub (pe_int) (pe_int)) (pv 3)) pa_nil)))) (pcall GLawPick (hr.mono (by decide)) (by rfl) pass0 (pa_cons (pv 0) (pa_cons (pe_int) pa_nil))) (fun _ _ => rfl)) (pa_cons (pv 4) (pa_cons (pv 5) (pa_cons (pv 6) pa_nil))))))))
  (pss_nil))
  (pss_cons (ps_if (pt_cmpR op_eq (pv 7) (pe_int) (nomark _))
  (pss_one (ps_ret (pe_tup (pa_cons (pv 2) (pa_cons (pv 3) (pa_cons (pv 9) (pa_cons (pv 5) (pa_cons (pv 6) pa_nil))))))))
  (pss_nil))
  (pss_cons (ps_if (pt_cmpR op_eq (pv 7) (pe_int) (nomark _))
  (pss_one (ps_ret (pe_tup (pa_cons (pv 2) (pa_cons (pv 3) (pa_cons (pv 4) (pa_cons (pe_ix ix_list (pe_lst (pa_cons (pv 9) (pa_cons (pe_op op_sub (pe_int) (pe_int)) (pa_cons (pe_op op_sub (pe_op op_sub (pe_int) (pe_int)) (pv 5)) pa_nil)))) (pcall GLawPick (hr.mono (by decide)) (by rfl) pass0 (pa_cons (pv 0) (pa_cons (pe_int) pa_nil))) (fun _ _ => rfl)) (pa_cons (pv 6) pa_nil))))))))
  (pss_nil))
  (pss_one (ps_ret (pe_tup (pa_cons (pv 2) (pa_cons (pv 3) (pa_cons (pv 4) (pa_cons (pv 5) (pa_cons (pe_ix ix_list (pe_lst (pa_cons (pe_str) (pa_cons (pe_str) (pa_cons (pe_str) (pa_cons (pe_non) (pa_cons (pe_int) (pa_cons (pe_tup (pa_cons (pe_str) pa_nil)) (pa_cons (pe_lst (pa_cons (pe_str) pa_nil)) (pa_cons (pe_str) pa_nil))))))))) (pcall GLawPick (hr.mono (by decide)) (by rfl) pass0 (pa_cons (pv 0) (pa_cons (pe_int) pa_nil))) (fun _ _ => rfl)) pa_nil))))))))))))))), ?_⟩
    have hF' := hF
    obtain ⟨a', xs, ea, ha, hX⟩ := hF'
    cases ea
    have hln := hX.len2
    refine seq2_abs (fun σ H1 => ∃ kind at_ : Int, σ = [some (.ref Pa), some (.ref c), some (.ref a), some (.int width), some (.int ce), some (.int wide), some (.str (S (sideT left))), some (.int kind), some (.int at_), none, none, none, none] ∧ Pst Pa H H1 ∧ 0 ≤ at_ ∧ at_ ≤ F.length) (fun R hR => ?_) ?_
    · (try simp only [cx_K, cx_w, rIn, rMulS, CwR.tReplC, tM1, tBM0, rPop, rExtend, rReverse, rLenS, rEqE, rNeE, rSetL, rIntI, rIntB, tBM, rAppend, rIxL, rIxT, rCat, rSlL, rSlS, gTup, tYes, wipe, tSeq, tAsg, tIfS, tRet, tRetN, tDrop, tNext, tBreak, tCont, tNever, tAug, ipI, tPar, tPar3, gName, gCons, gNil, gSub, tVar, tC, tOp, tUn, tIf, tAndV, tOrV, tNotV, tAnd, tOr, tNot, L2.tB, tTest, tCmp, tChain, tCB, tCons, tNil, tCall, tCallS, tTup, tLst, tSl, tPart, tNoPart, rI, rI0, rU, rEq, rNe, scal_ii, scal_ss, scal_bb, scal_nn, scal_is, scal_si, rIxS, S_len, S_cps, S_inj, L2.start, List.map_cons, List.map_nil, List.cons_append, List.nil_append, List.append_nil, List.getElem?_cons_zero, List.getElem?_cons_succ, List.set_cons_zero, List.set_cons_succ, List.length_cons, List.length_nil, Nat.reduceAdd, Nat.reduceSub, List.replicate_succ, List.replicate_zero, Option.some.injEq, V.int.injEq, V.str.injEq, V.bl.injEq, V.ref.injEq, List.cons.injEq, and_true, true_and, exists_eq_left, exists_eq_left', exists_and_left, exists_eq, exists_eq', decide_eq_true_eq, Bool.not_eq_true', decide_eq_false_iff_not, Bool.false_eq_true, if_false, if_true, reduceIte, ite_self, CMul, CPow, CDiv])
      refine ⟨_, SqT.of hc, rfl, _, _, rfl, _, _, rfl, _, _, rfl, _, _, rfl, _, _, rfl, rfl, Pa, 7, rfl, hP, by decide, fun kind H1 k0 k1 st1 => ?_⟩
      have ha1 := hide_sub _ _ (st1.kp.hide _ _ ha)
      exact ⟨a, rfl, xs, .inl (SqL.of ha1), Pa, _, rfl, st1.pool, by omega, fun at_ H2 a0 a1 st2 => ⟨_, _, ⟨rfl, rfl⟩, hR _ _ ⟨kind, at_, rfl, st1.trans st2, a0, by omega⟩⟩⟩
    · rintro σ H1 ⟨kind, at_, rfl, st1, a0, a1⟩
      have hPne := st1.pool.ne
      have l1 : ("1" : Str).cps.toList = [49] := by decide +kernel
      refine seq_asg ?_
      refine ret_pick (K := K) (H0 := H1) (n := 6) (givesO_cons (give_some give_non) (givesO_cons (give_some give_bl) (givesO_cons (give_some give_str) (givesO_cons (give_some (give_tup hPne gives_nil (len_small (by rfl)))) (givesO_cons (give_some (give_lst hPne (gives_cons give_int gives_nil) (len_small (by rfl)))) (givesO_cons (give_some give_bl) givesO_nil)))))) rfl st1.pool (Same.refl _) rfl rfl (by decide) (by decide) ?q
      case q =>
        intro o v H2 ho st2 hr2
        have hno : ∃ d, o = some d ∧ isCountO (some d) = false ∧ isWholeO (some d) = false := by
          simp only [List.mem_cons, List.not_mem_nil, or_false] at ho
          rcases ho with rfl | rfl | rfl | rfl | rfl | rfl <;> exact ⟨_, rfl, rfl, rfl⟩
        clear ho
        obtain ⟨dn, rfl, hno1, hno2⟩ := hno
        have r_none : Rep (hide [Pa] H2) dn v := hr2
        have st02 := st1.trans st2
        have hF2 := hF.mono st02.kp.hide
        have ha2 := st02.kp.hide _ _ ha
        have hX2 := hX.mono st02.kp.hide
        have hP2 := st02.pool
        have hPne := hP2.ne
        have r_width : Rep (hide [Pa] H2) (.int width) (.int width) := rfl
        have r_w : Rep (hide [Pa] H2) (.int wide) (.int wide) := rfl
        have hfl1000 : ∀ ds, some (flsD F) = some (.lst ds) → ds.length ≤ 1000 := fun ds e => by
          cases e
          rw [List.length_map]
          omega
        refine seq_ifAbs ?_
        refine ⟨_, rfl, kind, 2, rfl, rfl, decide (kind < 2), rfl, ite2 (fun _ => ?_) (fun _ => ?_)⟩
        · refine seq1_abs (fun σ H3 => ∃ (t : Addr) (f : Fl), σ = [some (.ref Pa), some (.ref c), some (.ref a), some (.int width), some (.int ce), some (.int wide), some (.str (S (sideT left))), some (.int kind), some (.int at_), some v, some (.ref t), none, none] ∧ Same H2 H3 ∧ Rep (hide [Pa] H3) (flD f) (.ref t)) (fun R hR => ?_) ?_
          · (try simp only [cx_K, cx_w, rIn, rMulS, CwR.tReplC, tM1, tBM0, rPop, rExtend, rReverse, rLenS, rEqE, rNeE, rSetL, rIntI, rIntB, tBM, rAppend, rIxL, rIxT, rCat, rSlL, rSlS, gTup, tYes, wipe, tSeq, tAsg, tIfS, tRet, tRetN, tDrop, tNext, tBreak, tCont, tNever, tAug, ipI, tPar, tPar3, gName, gCons, gNil, gSub, tVar, tC, tOp, tUn, tIf, tAndV, tOrV, tNotV, tAnd, tOr, tNot, L2.tB, tTest, tCmp, tChain, tCB, tCons, tNil, tCall, tCallS, tTup, tLst, tSl, tPart, tNoPart, rI, rI0, rU, rEq, rNe, scal_ii, scal_ss, scal_bb, scal_nn, scal_is, scal_si, rIxS, S_len, S_cps, S_inj, L2.start, List.map_cons, List.map_nil, List.cons_append, List.nil_append, List.append_nil, List.getElem?_cons_zero, List.getElem?_cons_succ, List.set_cons_zero, List.set_cons_succ, List.length_cons, List.length_nil, Nat.reduceAdd, Nat.reduceSub, List.replicate_succ, List.replicate_zero, Option.some.injEq, V.int.injEq, V.str.injEq, V.bl.injEq, V.ref.injEq, List.cons.injEq, and_true, true_and, exists_eq_left, exists_eq_left', exists_and_left, exists_eq, exists_eq', decide_eq_true_eq, Bool.not_eq_true', decide_eq_false_iff_not, Bool.false_eq_true, if_false, if_true, reduceIte, ite_self, CMul, CPow, CDiv])
            obtain ⟨m, rfl⟩ := Int.eq_ofNat_of_zero_le a0
            refine ⟨by decide, fun q1 hq1 => ⟨by decide, fun q2 hq2 => ?_⟩⟩
            have s2 : Same H2 (upd (upd H2 q1 (.tup [.str (Str.ofString "left"), .int 0, .int 1, .int 0, .int 1])) q2 (.lst [.ref q1])) := (Same.new hq1).trans (Same.new hq2)
            refine ⟨xs, s2 _ _ (hide_sub _ _ ha2), _, upd_same, by rw [List.length_singleton]; exact sz5 (by omega), fun q3 hq3 => ?_⟩
            have n1 := new_ne hPne (Same.refl _) hq1
            have s3 := s2.trans (Same.new (o := .lst (xs ++ [.ref q1])) hq3)
            have e1 := ((Same.new hq2).trans (Same.new (o := .lst (xs ++ [.ref q1])) hq3)) q1 _ (upd_same (H := H2) (o := .tup [.str (Str.ofString "left"), .int 0, .int 1, .int 0, .int 1]))
            have hcat : Reps (hide [Pa] (upd (upd (upd H2 q1 (.tup [.str (Str.ofString "left"), .int 0, .int 1, .int 0, .int 1])) q2 (.lst [.ref q1])) q3 (.lst (xs ++ [.ref q1])))) ((F ++ [(⟨true, 0, 1, 0, 1⟩ : Fl)]).map flD) (xs ++ [.ref q1]) := by
              rw [List.map_append]
              exact (hX2.mono s3.hide).snoc ⟨q1, _, rfl, hide_some.mpr ⟨by simp [n1], e1⟩, _, _, rfl, rfl, _, _, rfl, rfl, _, _, rfl, rfl, _, _, rfl, rfl, _, _, rfl, rfl, rfl⟩
            have hmz : m < (xs ++ [V.ref q1]).length := by rw [List.length_append, List.length_singleton]; omega
            obtain ⟨d, hd, rd⟩ := hcat.get (List.getElem?_eq_getElem hmz)
            rw [List.getElem?_map] at hd
            obtain ⟨f, hf, rfl⟩ := Option.map_eq_some_iff.mp hd
            obtain ⟨t, ys, et, _⟩ := id rd
            refine ⟨_, SqL.of upd_same, _, at_nat (List.getElem?_eq_getElem hmz), hR _ _ ⟨t, f, ?_, s3, et ▸ rd⟩⟩
            rw [et]
          · rintro σ H3 ⟨t, f, rfl, s3, rf⟩
            have st03 := st02.same s3
            have ha3 := s3.hide _ _ ha2
            have hX3 := hX2.mono s3.hide
            (try simp only [cx_K, cx_w, rIn, rMulS, CwR.tReplC, tM1, tBM0, rPop, rExtend, rReverse, rLenS, rEqE, rNeE, rSetL, rIntI, rIntB, tBM, rAppend, rIxL, rIxT, rCat, rSlL, rSlS, gTup, tYes, wipe, tSeq, tAsg, tIfS, tRet, tRetN, tDrop, tNext, tBreak, tCont, tNever, tAug, ipI, tPar, tPar3, gName, gCons, gNil, gSub, tVar, tC, tOp, tUn, tIf, tAndV, tOrV, tNotV, tAnd, tOr, tNot, L2.tB, tTest, tCmp, tChain, tCB, tCons, tNil, tCall, tCallS, tTup, tLst, tSl, tPart, tNoPart, rI, rI0, rU, rEq, rNe, scal_ii, scal_ss, scal_bb, scal_nn, scal_is, scal_si, rIxS, S_len, S_cps, S_inj, L2.start, List.map_cons, List.map_nil, List.cons_append, List.nil_append, List.append_nil, List.getElem?_cons_zero, List.getElem?_cons_succ, List.set_cons_zero, List.set_cons_succ, List.length_cons, List.length_nil, Nat.reduceAdd, Nat.reduceSub, List.replicate_succ, List.replicate_zero, Option.some.injEq, V.int.injEq, V.str.injEq, V.bl.injEq, V.ref.injEq, List.cons.injEq, and_true, true_and, exists_eq_left, exists_eq_left', exists_and_left, exists_eq, exists_eq', decide_eq_true_eq, Bool.not_eq_true', decide_eq_false_iff_not, Bool.false_eq_true, if_false, if_true, reduceIte, ite_self, CMul, CPow, CDiv])
            refine ⟨xs, SqL.of (hide_sub _ _ ha3), fun p hp => ⟨Pa, t, f, rfl, (st03.new hp).pool, rf.mono (Same.new hp).hide, fun d x H4 hd st4 rd => ⟨by decide, fun p1 hp1 => ?_⟩⟩⟩
            have np := st03.ne hp
            have st34 : Pst Pa H3 H4 := ((Pst.refl st03.pool).new hp).trans st4
            obtain ⟨es1, hes1, hsub1⟩ := cut_rep (lo := none) (hi := some at_) hX3
            obtain ⟨es2, hes2, hsub2⟩ := cut_rep (lo := some (at_ + 1)) (hi := none) hX3
            have hl1 := hes1.length
            have hl2 := hes2.length
            have hd1 := hsub1.length_le
            have hd2 := hsub2.length_le
            rw [List.length_map] at hd1 hd2
            have ep := st4.kp p _ np upd_same
            refine ⟨_, (Same.new hp1) _ _ ep, _, upd_same, by rw [List.length_singleton]; exact sz5 (by omega), fun p2 hp2 => ⟨xs, SqL.of ((Same.new hp2) _ _ ((Same.new hp1) _ _ (hide_sub _ _ (st34.kp.hide _ _ ha3)))), fun p3 hp3 => ⟨_, (Same.new hp3) _ _ upd_same, _, upd_same, by rw [List.length_append, List.length_singleton]; exact sz5 (by omega), fun p4 hp4 => ⟨by decide, fun p5 hp5 => ?_⟩⟩⟩⟩
            have st05 := (((st03.trans st34).new (o := .lst [x]) hp1).new (o := .lst (cutV xs none (some at_) ++ [x])) hp2).new (o := .lst (cutV xs (some (at_ + 1)) none)) hp3
            have np4 := st05.ne hp4
            have sx := (((Same.new (o := .lst [x]) hp1).trans (Same.new (o := .lst (cutV xs none (some at_) ++ [x])) hp2)).trans (Same.new (o := .lst (cutV xs (some (at_ + 1)) none)) hp3)).trans (Same.new (o := .lst (cutV xs none (some at_) ++ [x] ++ cutV xs (some (at_ + 1)) none)) hp4)
            have hnew : Rep (hide [Pa] (upd (upd (upd (upd H4 p1 (.lst [x])) p2 (.lst (cutV xs none (some at_) ++ [x]))) p3 (.lst (cutV xs (some (at_ + 1)) none))) p4 (.lst (cutV xs none (some at_) ++ [x] ++ cutV xs (some (at_ + 1)) none)))) (.lst (es1 ++ [d] ++ es2)) (.ref p4) :=
              ⟨p4, _, rfl, hide_new np4, (((hes1.mono st34.kp.hide).append (show Reps _ [d] [x] from ⟨x, [], rfl, rd, rfl⟩)).append (hes2.mono st34.kp.hide)).mono sx.hide⟩
            refine q p5 _ _ (bad_fl (o0 := some (.lst (es1 ++ [d] ++ es2))) ((hnew.mono hide_sub).mono (Same.new hp5)) (fun ds e => ?_) (areFl_none (d := d) (by simp) hd)) ((st05.new hp4).new hp5) upd_same
            cases e
            rw [List.length_append, List.length_append, List.length_singleton]
            omega
        refine seq_ifAbs ?_
        refine ⟨_, rfl, rfl, decide (V.int kind = V.int 2), rfl, ite2 (fun _ => ?_) (fun _ => ?_)⟩
        · refine seq1_abs (fun σ H3 => ∃ (t : Addr) (f : Fl), σ = [some (.ref Pa), some (.ref c), some (.ref a), some (.int width), some (.int ce), some (.int wide), some (.str (S (sideT left))), some (.int kind), some (.int at_), some v, none, some (.ref t), none] ∧ Same H2 H3 ∧ Rep (hide [Pa] H3) (flD f) (.ref t)) (fun R hR => ?_) ?_
          · (try simp only [cx_K, cx_w, rIn, rMulS, CwR.tReplC, tM1, tBM0, rPop, rExtend, rReverse, rLenS, rEqE, rNeE, rSetL, rIntI, rIntB, tBM, rAppend, rIxL, rIxT, rCat, rSlL, rSlS, gTup, tYes, wipe, tSeq, tAsg, tIfS, tRet, tRetN, tDrop, tNext, tBreak, tCont, tNever, tAug, ipI, tPar, tPar3, gName, gCons, gNil, gSub, tVar, tC, tOp, tUn, tIf, tAndV, tOrV, tNotV, tAnd, tOr, tNot, L2.tB, tTest, tCmp, tChain, tCB, tCons, tNil, tCall, tCallS, tTup, tLst, tSl, tPart, tNoPart, rI, rI0, rU, rEq, rNe, scal_ii, scal_ss, scal_bb, scal_nn, scal_is, scal_si, rIxS, S_len, S_cps, S_inj, L2.start, List.map_cons, List.map_nil, List.cons_append, List.nil_append, List.append_nil, List.getElem?_cons_zero, List.getElem?_cons_succ, List.set_cons_zero, List.set_cons_succ, List.length_cons, List.length_nil, Nat.reduceAdd, Nat.reduceSub, List.replicate_succ, List.replicate_zero, Option.some.injEq, V.int.injEq, V.str.injEq, V.bl.injEq, V.ref.injEq, List.cons.injEq, and_true, true_and, exists_eq_left, exists_eq_left', exists_and_left, exists_eq, exists_eq', decide_eq_true_eq, Bool.not_eq_true', decide_eq_false_iff_not, Bool.false_eq_true, if_false, if_true, reduceIte, ite_self, CMul, CPow, CDiv])
            refine ⟨by decide, fun q1 hq1 => ⟨by decide, fun q2 hq2 => ?_⟩⟩
            have s2 : Same H2 (upd (upd H2 q1 (.tup [.str (Str.ofString "left"), .int 0, .int 1, .int 0, .int 1])) q2 (.lst [.ref q1])) := (Same.new hq1).trans (Same.new hq2)
            refine ⟨xs, s2 _ _ (hide_sub _ _ ha2), _, upd_same, by rw [List.length_singleton]; exact sz5 (by omega), fun q3 hq3 => ?_⟩
            have n1 := new_ne hPne (Same.refl _) hq1
            have s3 := s2.trans (Same.new (o := .lst (xs ++ [.ref q1])) hq3)
            have e1 := ((Same.new hq2).trans (Same.new (o := .lst (xs ++ [.ref q1])) hq3)) q1 _ (upd_same (H := H2) (o := .tup [.str (Str.ofString "left"), .int 0, .int 1, .int 0, .int 1]))
            have hcat : Reps (hide [Pa] (upd (upd (upd H2 q1 (.tup [.str (Str.ofString "left"), .int 0, .int 1, .int 0, .int 1])) q2 (.lst [.ref q1])) q3 (.lst (xs ++ [.ref q1])))) ((F ++ [(⟨true, 0, 1, 0, 1⟩ : Fl)]).map flD) (xs ++ [.ref q1]) := by
              rw [List.map_append]
              exact (hX2.mono s3.hide).snoc ⟨q1, _, rfl, hide_some.mpr ⟨by simp [n1], e1⟩, _, _, rfl, rfl, _, _, rfl, rfl, _, _, rfl, rfl, _, _, rfl, rfl, _, _, rfl, rfl, rfl⟩
            obtain ⟨m, hm, hmz⟩ : ∃ m : Nat, atI (xs ++ [V.ref q1]) ((xs.length : Nat) - 1 : Int) = (xs ++ [V.ref q1])[m]? ∧ m < (xs ++ [V.ref q1]).length := by
              by_cases h0 : xs.length = 0
              · refine ⟨0, ?_, by simp⟩
                have : xs = [] := List.eq_nil_of_length_eq_zero h0
                rw [this]
                rfl
              · refine ⟨xs.length - 1, ?_, by simp; omega⟩
                rw [show ((xs.length : Nat) - 1 : Int) = ((xs.length - 1 : Nat) : Int) by omega]
                have hlt : xs.length - 1 < (xs ++ [V.ref q1]).length := by simp; omega
                rw [List.getElem?_eq_getElem hlt]
                exact at_nat (List.getElem?_eq_getElem hlt)
            obtain ⟨d, hd, rd⟩ := hcat.get (List.getElem?_eq_getElem hmz)
            rw [List.getElem?_map] at hd
            obtain ⟨f, hf, rfl⟩ := Option.map_eq_some_iff.mp hd
            obtain ⟨t, ys, et, _⟩ := id rd
            rw [List.getElem?_eq_getElem hmz] at hm
            refine ⟨xs, .inl (SqL.of (s3 _ _ (hide_sub _ _ ha2))), _, SqL.of upd_same, _, hm, hR _ _ ⟨t, f, ?_, s3, et ▸ rd⟩⟩
            rw [et]
          · rintro σ H3 ⟨t, f, rfl, s3, rf⟩
            have st03 := st02.same s3
            have hF3 := hF2.mono s3.hide
            obtain ⟨t', ys, et, ht, _, _, rfl, rfl, _, _, rfl, rfl, _, _, rfl, rfl, _, _, rfl, rfl, _, _, rfl, rfl, rfl⟩ := id rf
            cases et
            refine seq1_abs (fun σ H4 => ∃ (mo : Addr) (sd : Bool), σ = [some (.ref Pa), some (.ref c), some (.ref a), some (.int width), some (.int ce), some (.int wide), some (.str (S (sideT left))), some (.int kind), some (.int at_), some v, none, some (.ref t), some (.ref mo)] ∧ Pst Pa H3 H4 ∧ Rep (hide [Pa] H4) (.lst [flD ⟨sd, 0, 1, f.t - 1, f.t + 5⟩]) (.ref mo)) (fun R hR => ?_) ?_
            · (try simp only [cx_K, cx_w, rIn, rMulS, CwR.tReplC, tM1, tBM0, rPop, rExtend, rReverse, rLenS, rEqE, rNeE, rSetL, rIntI, rIntB, tBM, rAppend, rIxL, rIxT, rCat, rSlL, rSlS, gTup, tYes, wipe, tSeq, tAsg, tIfS, tRet, tRetN, tDrop, tNext, tBreak, tCont, tNever, tAug, ipI, tPar, tPar3, gName, gCons, gNil, gSub, tVar, tC, tOp, tUn, tIf, tAndV, tOrV, tNotV, tAnd, tOr, tNot, L2.tB, tTest, tCmp, tChain, tCB, tCons, tNil, tCall, tCallS, tTup, tLst, tSl, tPart, tNoPart, rI, rI0, rU, rEq, rNe, scal_ii, scal_ss, scal_bb, scal_nn, scal_is, scal_si, rIxS, S_len, S_cps, S_inj, L2.start, List.map_cons, List.map_nil, List.cons_append, List.nil_append, List.append_nil, List.getElem?_cons_zero, List.getElem?_cons_succ, List.set_cons_zero, List.set_cons_succ, List.length_cons, List.length_nil, Nat.reduceAdd, Nat.reduceSub, List.replicate_succ, List.replicate_zero, Option.some.injEq, V.int.injEq, V.str.injEq, V.bl.injEq, V.ref.injEq, List.cons.injEq, and_true, true_and, exists_eq_left, exists_eq_left', exists_and_left, exists_eq, exists_eq', decide_eq_true_eq, Bool.not_eq_true', decide_eq_false_iff_not, Bool.false_eq_true, if_false, if_true, reduceIte, ite_self, CMul, CPow, CDiv])
              refine ⟨by decide, fun q1 hq1 => ⟨Pa, 2, rfl, (st03.new hq1).pool, by decide, fun k H4 k0 k1 st4 => ?_⟩⟩
              obtain ⟨x, ex, hx⟩ := atI_mem (xs := [V.str (Str.ofString "left"), V.str (Str.ofString "right")]) k0 k1
              obtain ⟨sd, rfl⟩ : ∃ sd, x = .str (S (sideT sd)) := by
                simp only [List.mem_cons, List.not_mem_nil, or_false] at hx
                rcases hx with rfl | rfl
                · exact ⟨true, rfl⟩
                · exact ⟨false, rfl⟩
              have ht4 := st4.tup (st03.new hq1).pool ((Same.new hq1) _ _ (hide_sub _ _ ht))
              have st34 : Pst Pa H3 H4 := ((Pst.refl st03.pool).new hq1).trans st4
              refine ⟨_, k, rfl, SqL.of (lst_keep st03 hq1 st4), _, ex, _, SqT.of ht4, _, at_nat (i := 3) rfl, _, rfl, _, SqT.of ht4, _, at_nat (i := 3) rfl, _, rfl, by decide, fun p2 hp2 => ⟨by decide, fun p3 hp3 => hR _ _ ⟨p3, sd, rfl, (st34.new hp2).new hp3, ?_⟩⟩⟩
              have n2 := st34.ne hp2
              have n3 := (st34.new (o := .tup [.str (S (sideT sd)), .int 0, .int 1, .int (f.t - 1), .int (f.t + 5)]) hp2).ne hp3
              exact ⟨p3, _, rfl, hide_new n3, _, _, rfl, ⟨p2, _, rfl, hide_some.mpr ⟨by simp [n2], (Same.new hp3) _ _ upd_same⟩, _, _, rfl, rfl, _, _, rfl, rfl, _, _, rfl, rfl, _, _, rfl, rfl, _, _, rfl, rfl, rfl⟩, rfl⟩
            · rintro σ H4 ⟨mo, sd, rfl, st4, rm⟩
              have st04 := st03.trans st4
              have hPne := st04.pool.ne
              have r_floats : Rep (hide [Pa] H4) (.lst (F.map flD)) (.ref a) := hF3.mono st4.kp.hide
              have r_last : Rep (hide [Pa] H4) (flD f) (.ref t) := rf.mono st4.kp.hide
              have r_more : Rep (hide [Pa] H4) (.lst [flD ⟨sd, 0, 1, f.t - 1, f.t + 5⟩]) (.ref mo) := rm
              show tTup _ _ _ _
              refine ret_pick (K := K) (H0 := H4) (n := 6) (givesO_cons (give_some (give_tupOf hPne (gives_cons (give_var (i := 2) (by rfl) r_floats) gives_nil))) (givesO_cons (give_some give_non) (givesO_cons (give_dict hPne) (givesO_cons (give_some give_str) (givesO_cons (give_some (give_cat hPne (give_cat hPne (give_var (i := 2) (by rfl) r_floats) (give_lst hPne (gives_cons (give_var (i := 11) (by rfl) r_last) gives_nil) (len_small (by rfl))) (sz5 (by simp <;> omega))) (give_var (i := 12) (by rfl) r_more) (sz5 (by simp <;> omega)))) (givesO_cons (give_some (give_cat hPne (give_lst hPne (gives_cons (give_var (i := 11) (by rfl) r_last) gives_nil) (len_small (by rfl))) (give_var (i := 12) (by rfl) r_more) (sz5 (by simp <;> omega)))) givesO_nil)))))) rfl st04.pool (Same.refl _) rfl rfl (by decide) (by decide) ?q6
              case q6 =>
                intro o3 v3 H5 ho3 st5 hr3
                have hb : areFlO o3 = false := by
                  simp only [List.mem_cons, List.not_mem_nil, or_false] at ho3
                  rcases ho3 with rfl | rfl | rfl | rfl | rfl | rfl
                  · rfl
                  · rfl
                  · rfl
                  · rfl
                  · show areFl (.lst ((F.map flD ++ [flD f]) ++ [flD ⟨sd, 0, 1, f.t - 1, f.t + 5⟩])) = false
                    rw [List.append_assoc]
                    exact areFl_tops (by simp only; omega)
                  · exact areFl_tops (ds := []) (f := f) (g := ⟨sd, 0, 1, f.t - 1, f.t + 5⟩) (by simp only; omega)
                have hlen : ∀ ds, o3 = some (.lst ds) → ds.length ≤ 1000 := fun ds e => by
                  simp only [List.mem_cons, List.not_mem_nil, or_false] at ho3
                  rcases ho3 with rfl | rfl | rfl | rfl | rfl | rfl <;> cases e
                  · simp
                    omega
                  · simp
                exact ⟨_, rfl, _, rfl, _, rfl, _, rfl, (show 5 ≤ sizeLine by decide), fun p hp => q p _ _ (bad_fl ((hr3.mono hide_sub).mono (Same.new hp)) hlen hb) ((st04.trans st5).new hp) upd_same⟩
        refine seq_ifEq rfl (fun _ => ?_) (fun _ => ?_)
        · refine ⟨_, rfl, ?_⟩
          refine ret_pick (K := K) (H0 := H2) (n := 3) (givesO_cons (give_some (give_var (i := 9) (by rfl) r_none)) (givesO_cons (give_some (give_sub give_int give_int)) (givesO_cons (give_some (give_sub (give_sub give_int give_int) (give_var (i := 3) (by rfl) r_width))) givesO_nil))) rfl hP2 (Same.refl _) rfl rfl (by decide) (by decide) ?q3
          case q3 =>
            intro o3 v3 H3 ho3 st3 hr3
            have hb : isCountO o3 = false := by
              simp only [List.mem_cons, List.not_mem_nil, or_false] at ho3
              rcases ho3 with rfl | rfl | rfl
              · exact hno1
              · rfl
              · exact decide_eq_false (by omega)
            refine ⟨_, rfl, _, rfl, _, rfl, (show 5 ≤ sizeLine by decide), fun p hp => q p _ _ ⟨_, _, _, _, _, some (flsD F), o3, some (.int ce), some (.int wide), some (.str (sideT left)), rfl, ?_, hfl1000, (hr3.mono hide_sub).mono (Same.new hp), rfl, rfl, rfl, ?_⟩ ((st02.trans st3).new hp) upd_same⟩
            · exact ((hF2.mono st3.kp.hide).mono hide_sub).mono (Same.new hp)
            · unfold fine5 ok3
              rw [hb, Bool.false_and, Bool.and_false, Bool.false_and]
        refine seq_ifEq rfl (fun _ => ?_) (fun _ => ?_)
        · refine ⟨_, rfl, _, rfl, _, rfl, _, rfl, _, rfl, (show 5 ≤ sizeLine by decide), fun p hp => q p _ _ ⟨_, _, _, _, _, some (flsD F), some (.int width), some dn, some (.int wide), some (.str (sideT left)), rfl, (hF2.mono hide_sub).mono (Same.new hp), hfl1000, rfl, (r_none.mono hide_sub).mono (Same.new hp), rfl, rfl, ?_⟩ (st02.new hp) upd_same⟩
          unfold fine5 ok3
          rw [hno2, Bool.and_false, Bool.and_false, Bool.false_and]
        refine seq_ifEq rfl (fun _ => ?_) (fun _ => ?_)
        · refine ⟨_, rfl, _, rfl, _, rfl, ?_⟩
          refine ret_pick (K := K) (H0 := H2) (n := 3) (givesO_cons (give_some (give_var (i := 9) (by rfl) r_none)) (givesO_cons (give_some (give_sub give_int give_int)) (givesO_cons (give_some (give_sub (give_sub give_int give_int) (give_var (i := 5) (by rfl) r_w))) givesO_nil))) rfl hP2 (Same.refl _) rfl rfl (by decide) (by decide) ?q4
          case q4 =>
            intro o3 v3 H3 ho3 st3 hr3
            have hb : isCountO o3 = false := by
              simp only [List.mem_cons, List.not_mem_nil, or_false] at ho3
              rcases ho3 with rfl | rfl | rfl
              · exact hno1
              · rfl
              · exact decide_eq_false (by omega)
            refine ⟨_, rfl, (show 5 ≤ sizeLine by decide), fun p hp => q p _ _ ⟨_, _, _, _, _, some (flsD F), some (.int width), some (.int ce), o3, some (.str (sideT left)), rfl, ?_, hfl1000, rfl, rfl, (hr3.mono hide_sub).mono (Same.new hp), rfl, ?_⟩ ((st02.trans st3).new hp) upd_same⟩
            · exact ((hF2.mono st3.kp.hide).mono hide_sub).mono (Same.new hp)
            · unfold fine5
              rw [hb, Bool.false_and, Bool.and_false]
        · refine ⟨_, rfl, _, rfl, _, rfl, _, rfl, ?_⟩
          refine ret_pick (K := K) (H0 := H2) (n := 8) (givesO_cons (give_some give_str) (givesO_cons (give_some give_str) (givesO_cons (give_some give_str) (givesO_cons (give_some give_non) (givesO_cons (give_some give_int) (givesO_cons (give_some (give_tup hPne (gives_cons give_str gives_nil) (len_small (by rfl)))) (givesO_cons (give_some (give_lst hPne (gives_cons give_str gives_nil) (len_small (by rfl)))) (givesO_cons (give_some give_str) givesO_nil)))))))) rfl hP2 (Same.refl _) rfl rfl (by decide) (by decide) ?q5
          case q5 =>
            intro o3 v3 H3 ho3 st3 hr3
            have hb : isSideO o3 = false := by
              simp only [List.mem_cons, List.not_mem_nil, or_false] at ho3
              rcases ho3 with rfl | rfl | rfl | rfl | rfl | rfl | rfl | rfl <;> first | rfl | decide +kernel
            refine ⟨(show 5 ≤ sizeLine by decide), fun p hp => q p _ _ ⟨_, _, _, _, _, some (flsD F), some (.int width), some (.int ce), some (.int wide), o3, rfl, ?_, hfl1000, rfl, rfl, rfl, (hr3.mono hide_sub).mono (Same.new hp), ?_⟩ ((st02.trans st3).new hp) upd_same⟩
            · exact ((hF2.mono st3.kp.hide).mono hide_sub).mono (Same.new hp)
            · unfold fine5
              rw [hb, Bool.and_false, Bool.and_false]
end
end K92


namespace K92
open PySem PySem.Spec PyProof.Rows L2 KB
/-! ### texts of data -/
mutual
def toP : D → PyData
  | .non => .none
  | .bl b => .bool b
  | .int i => .int i
  | .str l => .str (S l)
  | .tup ds => .tuple (toPs ds)
  | .lst ds => .list (toPs ds)
def toPs : List D → List PyData
  | [] => []
  | d :: ds => toP d :: toPs ds
end
def toPO : Option D → PyData
  | some d => toP d
  | none => .dict []
mutual
theorem rep_dp {K : PySem.W.Frag} {H : Hp} : ∀ {d : D} {v : V}, Rep H d v → Dp K H v (toP d)
  | .non, _, h => by
    have h : _ = V.non := h
    subst h
    exact .non
  | .bl b, _, h => by
    have h : _ = V.bl b := h
    subst h
    exact .bl b
  | .int i, _, h => by
    have h : _ = V.int i := h
    subst h
    exact .int i
  | .str l, _, h => by
    have h : _ = V.str (S l) := h
    subst h
    exact .str _
  | .tup ds, _, ⟨a, xs, e, g, r⟩ => e ▸ .tup (SqT.of g) (reps_dp r)
  | .lst ds, _, ⟨a, xs, e, g, r⟩ => e ▸ .lst (SqL.of g) (reps_dp r)
theorem reps_dp {K : PySem.W.Frag} {H : Hp} : ∀ {ds : List D} {xs : List V}, Reps H ds xs → DpAll K H xs (toPs ds)
  | [], _, h => by
    have h : _ = [] := h
    subst h
    exact .nil
  | d :: ds, _, ⟨x, r, e, e1, e2⟩ => e ▸ .cons (rep_dp e1) (reps_dp e2)
end
theorem shown_int {i : Int} (h : i.natAbs < 1000000000000) : (PyData.shown (.int i)).length ≤ 13 := by
  have h1 := PySem.int_text_length_le10 (a := i) (k := 12) (by decide) h
  have h2 := PySem.ofString_length (toString i)
  show (Str.ofString (toString i)).length ≤ 13
  omega
structure ShowOk (d : PyData) (n : Nat) (z : Nat) : Prop where
  sh : d.showable = true
  lf : d.leavesShort 13 = true
  dp : d.depth ≤ n
  wt : d.weight + 1 ≤ 42 * z
  nd : d.hasDict = false
mutual
theorem sm_show : ∀ {d : D} {n : Nat}, smD n d = true → ShowOk (toP d) n (dsize d)
  | .non, n, _ => ⟨rfl, rfl, Nat.zero_le _, by show 0 + 1 ≤ 42 * 1; decide, rfl⟩
  | .bl b, n, _ => ⟨rfl, rfl, Nat.zero_le _, by show 0 + 1 ≤ 42 * 1; decide, rfl⟩
  | .int i, n, h => by
    have h : i.natAbs < 1000000000000 := by cases n <;> exact of_decide_eq_true h
    have hl : i.natAbs.log2 < 40 ∨ i.natAbs = 0 := by
      by_cases h0 : i.natAbs = 0
      · exact .inr h0
      · exact .inl ((Nat.log2_lt h0).mpr (Nat.lt_trans h (by decide)))
    have hl2 : i.natAbs.log2 < 40 := by
      rcases hl with h | h
      · exact h
      · rw [h]
        decide
    refine ⟨decide_eq_true (by omega), decide_eq_true (shown_int h), Nat.zero_le _, ?_, rfl⟩
    show (if (i == 0) = true then 0 else i.natAbs.log2 + 1) + 1 ≤ 42 * 1
    split <;> omega
  | .str l, n, h => by
    have h : (decide (l.length ≤ 20) && l.all fun c => decide (c < 1114112)) = true := by cases n <;> exact h
    rw [Bool.and_eq_true] at h
    refine ⟨rfl, ?_, Nat.zero_le _, ?_, rfl⟩
    · show l.all (fun c => decide (c < 16 ^ 8)) = true
      rw [List.all_eq_true]
      intro c hc
      have := of_decide_eq_true (List.all_eq_true.mp h.2 c hc)
      have e : (16 : Nat) ^ 8 = 4294967296 := by decide
      exact decide_eq_true (by omega)
    · have := of_decide_eq_true h.1
      show (S l).cps.size + 1 ≤ 42 * 1
      have e : (S l).cps.size = l.length := rfl
      omega
  | .tup ds, 0, h => by cases h
  | .lst ds, 0, h => by cases h
  | .tup ds, n + 1, h => by
    obtain ⟨a, b, c, e, f⟩ := sms_show (ds := ds) (n := n) (by rwa [sm_tup4] at h)
    refine ⟨a, b, ?_, ?_, f⟩
    · show PyData.depthAll (toPs ds) + 1 ≤ n + 1
      omega
    · show PyData.weightAll (toPs ds) + 1 ≤ 42 * (dsize (.tup ds))
      rw [dsize]
      omega
  | .lst ds, n + 1, h => by
    obtain ⟨a, b, c, e, f⟩ := sms_show (ds := ds) (n := n) (by rwa [sm_lst4] at h)
    refine ⟨a, b, ?_, ?_, f⟩
    · show PyData.depthAll (toPs ds) + 1 ≤ n + 1
      omega
    · show PyData.weightAll (toPs ds) + 1 ≤ 42 * (dsize (.lst ds))
      rw [dsize]
      omega
theorem sms_show : ∀ {ds : List D} {n : Nat}, smDs n ds = true → PyData.showableAll (toPs ds) = true ∧ PyData.leavesShortAll 13 (toPs ds) = true ∧ PyData.depthAll (toPs ds) ≤ n ∧ PyData.weightAll (toPs ds) ≤ 42 * dsizes ds ∧ PyData.hasDictAll (toPs ds) = false
  | [], n, _ => ⟨rfl, rfl, Nat.zero_le _, Nat.zero_le _, rfl⟩
  | d :: ds, n, h => by
    rw [smDs, Bool.and_eq_true] at h
    obtain ⟨a1, b1, c1, e1, f1⟩ := sm_show h.1
    obtain ⟨a2, b2, c2, e2, f2⟩ := sms_show h.2
    refine ⟨?_, ?_, ?_, ?_, ?_⟩
    · show (PyData.showable (toP d) && PyData.showableAll (toPs ds)) = true
      rw [a1, a2]
      rfl
    · show (PyData.leavesShort 13 (toP d) && PyData.leavesShortAll 13 (toPs ds)) = true
      rw [b1, b2]
      rfl
    · show max (PyData.depth (toP d)) (PyData.depthAll (toPs ds)) ≤ n
      omega
    · show PyData.weight (toP d) + 1 + PyData.weightAll (toPs ds) ≤ 42 * dsizes (d :: ds)
      rw [dsizes]
      omega
    · show (PyData.hasDict (toP d) || PyData.hasDictAll (toPs ds)) = false
      rw [f1, f2]
      rfl
end
/-- the text of data -/
def shO (o : Option D) : Str := (toPO o).shown
theorem sm_fits {d : D} (h : smD 5 d = true) (hz : dsize d ≤ 24000) : (toP d).shown.length ≤ sizeLine := by
  obtain ⟨_, lf, _, wt, _⟩ := sm_show h
  refine PyData.shown_fits (B := 13) (by decide) (by decide) lf ?_
  have e : (2 : Nat) ^ 20 = 1048576 := by decide
  omega
/-- repr of small data -/
def rRepr : List V → Hp → VK → Prop := fun xs H Q => ∃ v o, xs = [v] ∧ RepO H o v ∧ SmO o ∧ Q (.str (shO o)) H
theorem call_reprO {X : Cx} (hg : X.A.guards = some []) (hu : X.A.units + 64 < cLine) : CallR X (.builtin "repr") rRepr := by
  intro pins s σ H xs us Q I r h
  obtain ⟨v, o, rfl, ro, so, q⟩ := h
  obtain ⟨u, rfl, rv⟩ := vals1 r
  cases o with
  | none =>
    obtain ⟨a, rfl, ha⟩ := ro
    cases rv
    obtain ⟨_, hsys, vs, kv, o, es, ep, ho, hx, hd, hk, hp, hn⟩ := dk_of I.hok ha
    have hvs : vs = [] := by
      cases vs with
      | nil => rfl
      | cons a b => cases kv
    subst hvs
    have hes : es.toList = [] := by
      cases he : es.toList with
      | nil => rfl
      | cons a b =>
        rw [he] at hp
        cases hp
    have rd : Reads s.heap (.ref a) (.dict []) [a] := by
      have := Reads.dict (h := s.heap) (kvs := []) (as := []) (bs := []) ho hx.1 hd (by rw [hes]; exact .nil) (by rw [hes]; exact .nil)
      exact this
    refine repr_of_reads' rd rfl (fun _ hm => ?_) hg (by show X.A.units + (1 + 1) < cLine; omega) (fun _ _ e => e) (fun h' u tk hk => ?_) (by decide +kernel)
    · have : sysModules = a := by simpa using hm
      rw [this] at hsys
      simp at hsys
    · exact ⟨.str _, H, I.kept (t' := tk) hk, ⟨u, rfl⟩, q⟩
  | some d =>
    obtain ⟨s5, z5⟩ := so d rfl
    have SO := sm_show s5
    have hf := sm_fits s5 z5
    cases d with
    | non =>
      have ro : v = .non := ro
      subst ro
      cases rv
      exact PySem.P.repr_of_none ⟨.str _, H, I.tok _, ⟨_, rfl⟩, q⟩
    | bl b =>
      have ro : v = .bl b := ro
      subst ro
      cases rv
      exact PySem.P.repr_of_bool ⟨.str _, H, I.tok _, ⟨_, rfl⟩, q⟩
    | int i =>
      have ro : v = .int i := ro
      subst ro
      obtain ⟨t, rfl⟩ := rv
      exact PySem.P.repr_of_int (of_decide_eq_true SO.sh) ⟨.str _, H, I.tok _, ⟨_, rfl⟩, q⟩
    | str l =>
      have ro : v = .str (S l) := ro
      subst ro
      obtain ⟨t, rfl⟩ := rv
      exact PySem.P.repr_of_str ⟨.str _, H, I.tok _, ⟨_, rfl⟩, q⟩ hf
    | tup ds =>
      obtain ⟨as, rd⟩ := Dp.reads I _ _ _ (rep_dp ro) rv
      obtain ⟨a, xs, rfl, _, _⟩ := ro
      cases rv
      refine repr_of_reads' rd SO.sh (fun h => by rw [SO.nd] at h; cases h) hg (by have := SO.dp; omega) (fun _ _ e => e) (fun h' u tk hk => ?_) hf
      exact ⟨.str _, H, I.kept (t' := tk) hk, ⟨u, rfl⟩, q⟩
    | lst ds =>
      obtain ⟨as, rd⟩ := Dp.reads I _ _ _ (rep_dp ro) rv
      obtain ⟨a, xs, rfl, _, _⟩ := ro
      cases rv
      refine repr_of_reads' rd SO.sh (fun h => by rw [SO.nd] at h; cases h) hg (by have := SO.dp; omega) (fun _ _ e => e) (fun h' u tk hk => ?_) hf
      exact ⟨.str _, H, I.kept (t' := tk) hk, ⟨u, rfl⟩, q⟩
end K92


/-! ### defs that are called where no repr is under way -/
namespace KG
open PySem PySem.Spec PyProof.Rows L2 KB
section
variable {P : Program} {w : World} {K : PySem.W.Frag} {mg : Str → Option Value} {base : Heap}
/-- a def's promise to callers without guards on the stack -/
structure GFn (P : Program) (w : World) (K : PySem.W.Frag) (mg : Str → Option Value) (base : Heap) (k : Nat) (f : Addr) (fd : FuncData) (ps : List Str) (sp : Sp) : Prop where
  many : ∀ vs H Q E, sp vs H Q E → vs.length = ps.length
  does : ∀ (A : Around) (outer : List Env) (s : Shared) (H : Hp) (us : List Value) (vs : List V) (Q : VK) (E : XK), A.guards = some [] → Room k A → Env0 P w K mg base A outer s H → BindsTo s fd ⟨us, []⟩ (ps.zip us) → Vals vs us → sp vs H Q E →
    codeAny (model P w) A (.call (.ref f) ⟨us, []⟩) (CR CX0 outer P w H s Q E) s
def retOf : Flow → Value
  | .ret u => u
  | _ => .none
/-- the end of a body is the end of the call -/
theorem ends_call {A : Around} {outer : List Env} {s s' : Shared} {H : Hp} {Q : VK} {E : XK} {N : List Str} {qual : Str} {scope : Scope} {f : Addr} {cd : Value} {fl : Flow}
    (h : SP (cxOf CX0 P w K mg base N qual scope f cd A outer s H E) [] { nx := fun _ H' => Q .non H', rt := Q } fl s') :
    CR CX0 outer P w H s Q E (.ok (.ret (retOf fl))) s' := by
  match fl, h with
  | .ret u, ⟨v, _, H', J, r, q⟩ => exact ⟨v, H', J.os, J.bare, J.base, J.hok, r, q⟩
  | .next, ⟨_, H', J, q⟩ => exact ⟨.non, H', J.os, J.bare, J.base, J.hok, rfl, q⟩
  | .brk, ⟨_, _, _, q⟩ => exact q.elim
  | .cont, ⟨_, _, _, q⟩ => exact q.elim
theorem gfn {x qual : Str} {st : Stmt} {f : Addr} {fd : FuncData} {N ps : List Str} {k : Nat} {sp : Sp} (F : Fun K x qual st f fd) (S : FnScope N ps (defScope st)) (len : ∀ vs H Q E, sp vs H Q E → vs.length = ps.length)
    (body : ∀ (cdv : Value) (A : Around) (outer : List Env) (s : Shared) (H : Hp) (vs : List V) (Q : VK) (E : XK), A.guards = some [] → Room k (A.deeper (envOfC qual (defScope st) s.heap.objs.size f cdv)) → sp vs H Q E →
      ∃ t, PSs (cxOf CX0 P w K mg base N qual (defScope st) f cdv A outer s H E).nox (defBody st) t ∧ t { nx := fun _ H' => Q .non H', rt := Q } (start N vs) H) : GFn P w K mg base (k + 1) f fd ps sp := by
  obtain ⟨oc, od, kV, doc, pm, an, cdv, ct, osl, rfl, lk, hcd⟩ := F.ex
  refine ⟨len, fun A outer s H us vs Q E hg hr e0 hb r hsp => ?_⟩
  have inK : K.In s.heap := e0.mod.kin.keeps fun b o e => (e0.bs b o e).1
  have noL : s.heap.NoLimit := e0.mod.nolimit.keeps fun b o e => (e0.bs b o e).1
  have kinds : ∀ y ∈ ps.zip us, (defScope st).names.lookup y.1 = some .local ∨ ((defScope st).names.lookup y.1 = some .cell ∧ ((cellsFrom (s.heap.objs.size + 1) (defScope st).names []).lookup y.1).isSome = true) := by
    rintro ⟨n, v⟩ hy
    have hn := S.par n (List.of_mem_zip hy).1
    exact hn.imp id fun q => ⟨q, PySem.W.cellsFrom_some _ _ _ (.inl q)⟩
  refine codeAny_call_function hr.depth (inK _ _ lk) rfl S.co S.gen rfl (PySem.W.codeRec_of inK hcd) (hb _ _ _ _ (wpAny_newFunctionEnv_cells S.kind kinds fun env he s1 x => ?_))
  subst he
  obtain ⟨t, ht, hq⟩ := body cdv A outer s H vs Q E hg (hr.deeper _) hsp
  have J := inv_start (CX := CX0) (E := E) S hr.hd e0 (len _ _ _ _ hsp) r x
  exact ⟨noL.keeps x.toInCall.keep, codeAny_func (wpAny_mono (ht.nox.run [] s1 (start N vs) H _ J hq) (fun fl s' h => by
    have e := ends_call h
    cases fl <;> exact e) fun _ _ h => h)⟩
/-- it is called -/
theorem grun {X : Cx} {k : Nat} {f : Addr} {fd : FuncData} {ps : List Str} {sp : Sp} {pins : List (Addr × Obj)} {σ : L2.St} {H : Hp} {s : Shared} {Q : VK} {us : List Value} {vs : List V} (F : GFn X.prog X.w X.K X.mg X.base k f fd ps sp) (hg : X.A.guards = some []) (hr : Room k X.A)
    (hb : Binds X.K fd ps []) (I : Inv X pins σ H s) (r : Vals vs us) (h : sp vs H Q E0) : wpAny (model X.prog X.w) X.A (call (.ref f) us) (EP X pins σ Q) X.xe s := by
  have b := hb s us I.kIn (by rw [List.append_nil, ← r.length]; exact F.many _ _ _ _ h)
  rw [List.append_nil] at b
  refine wpAny_call (codeAny_mono (F.does X.A X.stack s H us vs Q E0 hg hr I.env0 b r h) fun res s' hq => ?_)
  match res, hq with
  | .ok (.ret u), hq => exact I.after hq
  | .ok .next, hq => exact hq.elim
  | .ok .brk, hq => exact hq.elim
  | .ok .cont, hq => exact hq.elim
  | .error e, hq => exact hq.elim
/-- a def of the top that keeps such a promise -/
def GOk (P : Program) (w : World) (K : PySem.W.Frag) (mg : Str → Option Value) (base : Heap) (k : Nat) (x : Str) (ps : List Str) (sp : Sp) : Prop :=
  ∃ f fd, mg x = some (.ref f) ∧ PySem.W.keepIn K (.ref f) = true ∧ Binds K fd ps [] ∧ GFn P w K mg base k f fd ps sp
theorem gcall {X : Cx} {k : Nat} {ps : List Str} {sp : Sp} {x : Str} {p pos : Pos} {e : Expr} {es : List Expr} {t : TA}
    (F : GOk X.prog X.w X.K X.mg X.base k x ps sp) (hgd : X.A.guards = some []) (hr : Room k X.A) (hg : Gl X x)
    (ha : PA X (e :: es) t) (hdb : (x == ("__debug__" : Str)) = false := by decide) (he : starEach (e :: es) X.env = (false, eval e X.env) :: starEach es X.env := by rfl) (hpl : (backTo pos (starEach es X.env)).any (·.1) = false := by rfl) :
    PE X (.Call (.Name x p) (e :: es) [] pos) (tCall sp [] E0 t) := by
  obtain ⟨f, fd, hm, hk, hb, F⟩ := F
  refine ⟨fun pins s σ H Q I h => wpAny_Call_Name_kw (ld_glob I hg hm ?_ hdb)⟩
  refine PySem.W.callWith_K (h₀ := X.base) I.ok.mod.kin hk (thn (ha.run pos pins s σ H _ I h) fun us s1 ⟨vs, H1, I1, r, q⟩ => ⟨I1.kIn, ?_⟩) he hpl
  have q : sp (vs ++ []) H1 Q E0 := q
  rw [List.append_nil] at q
  exact grun F hgd hr hb I1 r q
theorem mkG {g x : Str} {st : Stmt} {N ps : List Str} {k : Nat} {sp : Sp} (F : At K mg g x st ps) (S : FnScope N ps (defScope st)) (len : ∀ vs H Q E, sp vs H Q E → vs.length = ps.length)
    (body : ∀ (f : Addr) (cdv : Value) (A : Around) (outer : List Env) (s : Shared) (H : Hp) (vs : List V) (Q : VK) (E : XK), A.guards = some [] → Room k (A.deeper (envOfC x (defScope st) s.heap.objs.size f cdv)) → sp vs H Q E →
      ∃ t, PSs (cxOf CX0 P w K mg base N x (defScope st) f cdv A outer s H E).nox (defBody st) t ∧ t { nx := fun _ H' => Q .non H', rt := Q } (start N vs) H) : GOk P w K mg base (k + 1) g ps sp := by
  obtain ⟨f, fd, hm, F, hb⟩ := F
  exact ⟨f, fd, hm, F.kp, hb, gfn F S len fun cdv A outer s H vs Q E hg hr h => body f cdv A outer s H vs Q E hg hr h⟩
end
end KG


namespace K92
open PySem PySem.Spec PyProof.Rows L2 KB KG
section
variable {P : Program} {w : World} {K : PySem.W.Frag} {mg : Str → Option Value} {base : Heap}
theorem fls_size (F : List Fl) : dsize (flsD F) = 1 + 6 * F.length := by
  have : ∀ F : List Fl, dsizes (F.map flD) = 6 * F.length := fun F => by
    induction F with
    | nil => rfl
    | cons f F ih =>
      have h6 : dsize (flD f) = 6 := by simp [flD, dsize, dsizes]
      rw [List.map_cons, dsizes, ih, List.length_cons, h6]
      omega
  rw [flsD, dsize, this]
def spJudged : Sp := fun vs H Q _ => ∃ c call pl st a xp xv due F width ce wide left op ov r, vs = [.ref c, xp, xv, .bl due] ∧ H c = some (.tup [.ref call, pl, st]) ∧ H call = some (.tup [.ref a, .int width, .int ce, .int wide, .str (S (sideT left))]) ∧
  Rep H (flsD F) (.ref a) ∧ Good F ∧ 0 ≤ width ∧ 0 ≤ wide ∧ RepO H op xp ∧ RepO H ov xv ∧ SmO ov ∧ IsRow F 0 width wide (startOf F ce) r ∧ due = (isPlace (atOf F 0 width wide left r) r op && rightD F width wide (startOf F ce) r ov) ∧ ∀ H', Same H H' → Q (.bl true) H'
theorem okJudged (T : Top K w mg) : GOk P w K mg base 7 "_law_judged" ["case", "place", "value", "due"] spJudged := by
  have GIsFloatPaper : Ok P w K mg base CX0 6 "is_float_paper" ["floats", "width", "ceiling", "w", "side", "place", "value"] spIs := okIs T
  have GLawSame : Ok P w K mg base CX0 1 "_law_same" ["told", "due"] spSame := okSame T
  have m_list := T.m_list
  have m_repr := T.m_repr
  have m_bool := T.m_bool
  have m_isinstance := T.m_isinstance
  refine mkG T.f__law_judged scLawJudged (fun vs H Q E h => ?_) (fun f cdv A outer s H vs Q E hgd hr h => ?_)
  · obtain ⟨_, _, _, _, _, _, _, _, _, _, _, _, _, _, _, _, rfl, _⟩ := h
    rfl
  · obtain ⟨c, call, pl, st, a, xp, xv, due, F, width, ce, wide, left, op, ov, r, rfl, hc, hcall, hF, hG, hw, hwd, hp, hv, hsm, hR, hdue, q⟩ := h
    refine ⟨_, pss_cons (ps_asg (pe_ix ix_tup (pv 0) (pe_int) (fun _ _ => rfl)) (pg_tup (n := 5) rfl (pgs_cons (pg_name (i := 4) scLawJudged.nd rfl (Or.inl rfl)) (pgs_cons (pg_name (i := 5) scLawJudged.nd rfl (Or.inl rfl)) (pgs_cons (pg_name (i := 6) scLawJudged.nd rfl (Or.inl rfl)) (pgs_cons (pg_name (i := 7) scLawJudged.nd rfl (Or.inl rfl)) (pgs_cons (pg_name (i := 8) scLawJudged.nd rfl (Or.inl rfl)) pgs_nil)))))))
  (pss_cons (ps_par (i := 9) (j := 10) rfl scLawJudged.nd rfl rfl (by decide) rfl rfl (pa_cons (pe_callTy call_lstN (by rfl) m_list (by decide +kernel) (pa_cons (pv 4) pa_nil)) (pa_cons (pe_callB (call_reprO hgd hr.units) (by rfl) m_repr (by decide +kernel) (pa_cons (pv 2) pa_nil)) pa_nil)) (by rfl))
  (pss_cons (ps_set (i := 11) scLawJudged.nd rfl (Or.inl rfl) (pcall GIsFloatPaper (hr.mono (by decide)) (by rfl) pass0 (pa_cons (pv 9) (pa_cons (pv 5) (pa_cons (pv 6) (pa_cons (pv 7) (pa_cons (pv 8) (pa_cons (pv 1) (pa_cons (pv 2) pa_nil)))))))))
  (pss_one (ps_ret (pe_and (pe_callB call_isi (by rfl) m_isinstance (by decide +kernel) (pa_cons (pv 11) (pa_cons (pe_bltn (u := .type "bool") (v := .ty "bool") (by rfl) m_bool (by decide +kernel) rfl) pa_nil))) (pe_and (pe_cmpR op_eq (pv 11) (pv 3) (nomark _)) (pe_and (pe_cmpR op_eq (pe_callB (call_reprO hgd hr.units) (by rfl) m_repr (by decide +kernel) (pa_cons (pv 2) pa_nil)) (pv 10) (nomark _)) (pe_one (pcall GLawSame (hr.mono (by decide)) (by rfl) pass0 (pa_cons (pv 9) (pa_cons (pv 4) pa_nil))))))))))), ?_⟩
    (try simp only [cx_K, cx_w, rIn, rMulS, CwR.tReplC, tM1, tBM0, rPop, rExtend, rReverse, rLenS, rEqE, rNeE, rSetL, rIntI, rIntB, tBM, rAppend, rIxL, rIxT, rCat, rSlL, rSlS, gTup, tYes, wipe, tSeq, tAsg, tIfS, tRet, tRetN, tDrop, tNext, tBreak, tCont, tNever, tAug, ipI, tPar, tPar3, gName, gCons, gNil, gSub, tVar, tC, tOp, tUn, tIf, tAndV, tOrV, tNotV, tAnd, tOr, tNot, L2.tB, tTest, tCmp, tChain, tCB, tCons, tNil, tCall, tCallS, tTup, tLst, tSl, tPart, tNoPart, rI, rI0, rU, rEq, rNe, scal_ii, scal_ss, scal_bb, scal_nn, scal_is, scal_si, rIxS, S_len, S_cps, S_inj, L2.start, List.map_cons, List.map_nil, List.cons_append, List.nil_append, List.append_nil, List.getElem?_cons_zero, List.getElem?_cons_succ, List.set_cons_zero, List.set_cons_succ, List.length_cons, List.length_nil, Nat.reduceAdd, Nat.reduceSub, List.replicate_succ, List.replicate_zero, Option.some.injEq, V.int.injEq, V.str.injEq, V.bl.injEq, V.ref.injEq, List.cons.injEq, and_true, true_and, exists_eq_left, exists_eq_left', exists_and_left, exists_eq, exists_eq', decide_eq_true_eq, Bool.not_eq_true', decide_eq_false_iff_not, Bool.false_eq_true, if_false, if_true, reduceIte, ite_self, CMul, CPow, CDiv])
    obtain ⟨a', xs, ea, ha, hX⟩ := id hF
    cases ea
    refine ⟨_, SqT.of hc, _, at_nat (i := 0) rfl, call, rfl, _, SqT.of hcall, rfl, _, _, rfl, _, _, rfl, _, _, rfl, _, _, rfl, _, _, rfl, rfl, a, xs, rfl, .inl (SqL.of ha), fun b hb => ?_⟩
    have s1 : Same H (upd H b (.lst xs)) := Same.new hb
    have hFb : Rep (upd H b (.lst xs)) (flsD F) (.ref b) := ⟨b, xs, rfl, upd_same, hX.mono s1⟩
    refine ⟨xv, ov, rfl, hv.mono s1, hsm, _, _, ⟨rfl, rfl⟩, .ref b, F, width, ce, wide, left, xp, xv, op, ov, rfl, hFb, hG, hw, hwd, hp.mono s1, hv.mono s1, fun r' H2 hR' s2 => ?_⟩
    have er : r' = r := hR'.uniq hR
    rw [er, ← hdue]
    have s12 := s1.trans s2
    refine isk .bl (by decide) (.bl _) ⟨_, rfl, ifT rfl ⟨rfl, ifT rfl ⟨xv, ov, rfl, hv.mono s12, hsm, rfl, ifT rfl ⟨.ref b, .ref a, flsD F, rfl, hFb.mono s2, hF.mono s12, ?_, fun H3 s3 => q H3 (s12.trans s3)⟩⟩⟩⟩
    rw [fls_size]
    have := hG.2
    omega
/-- a case: the call at cl, its place, its first row -/
structure CaseIs (H : Hp) (Pa c : Addr) (F : List Fl) (width ce wide x y : Int) (left : Bool) : Prop where
  sh : ∃ cl pl a, H c = some (.tup [.ref cl, .ref pl, .int (startOf F ce)]) ∧ H cl = some (.tup [.ref a, .int width, .int ce, .int wide, .str (S (sideT left))]) ∧ H pl = some (.tup [.int x, .int y]) ∧ Rep (hide [Pa] H) (flsD F) (.ref a)
  good : Good F
  few : F.length ≤ 100
  w0 : 0 ≤ width
  wd0 : 0 ≤ wide
  row : IsRow F 0 width wide (startOf F ce) y
  pl : x = atOf F 0 width wide left y
  bd : ∀ z, startOf F ce ≤ z → z ≤ y → z.natAbs < 999999999990
def spCase : Sp := fun vs H Q _ => ∃ Pa, vs = [.ref Pa] ∧ PoolAt Pa H ∧ ∀ c F width ce wide x y left H', CaseIs (since H H') Pa c F width ce wide x y left → Pst Pa H H' → Q (.ref c) H'
end
end K92


namespace K92
open PySem PySem.Spec PyProof.Rows L2 KB KG
section
variable {P : Program} {w : World} {K : PySem.W.Frag} {mg : Str → Option Value} {base : Heap}
theorem since_hide {Pa : Addr} {H H' : Hp} (h : H Pa ≠ none) : Same (since H H') (hide [Pa] H') := fun b o e => by
  obtain ⟨e1, e2⟩ := since_some.mp e
  refine hide_some.mpr ⟨fun z => ?_, e2⟩
  have : b = Pa := by simpa using z
  rw [this] at e1
  exact h e1
theorem asFls_ok : ∀ {F : List Fl}, (∀ f ∈ F, f.l ≤ f.r ∧ f.t ≤ f.b) → asFls (F.map flD) = some F
  | [], _ => rfl
  | f :: F, h => by
    have h1 : asFl (flD f) = some f := by
      obtain ⟨l, a, b, c, d⟩ := f
      have e : asFl (flD ⟨l, a, b, c, d⟩) = if sideT l = sideT true then (if a ≤ b ∧ c ≤ d then some ⟨true, a, b, c, d⟩ else none) else if sideT l = sideT false then (if a ≤ b ∧ c ≤ d then some ⟨false, a, b, c, d⟩ else none) else none := rfl
      have hh : a ≤ b ∧ c ≤ d := h _ List.mem_cons_self
      rw [e, if_pos hh, if_pos hh]
      cases l with
      | true => rw [if_pos rfl]
      | false => rw [if_neg (by decide), if_pos rfl]
    rw [List.map_cons, asFls, h1, asFls_ok fun x hx => h x (List.mem_cons_of_mem _ hx)]
theorem good_ok {F : List Fl} (h : ∀ f ∈ F, f.l ≤ f.r ∧ f.t ≤ f.b) (hs : sortedT F = true) (hl : F.length ≤ 1000) : Good F := by
  refine ⟨?_, hl⟩
  show (match asFls (F.map flD) with | some G => sortedT G | none => false) = true
  rw [asFls_ok h]
  exact hs
theorem CaseIs.mono {H H' : Hp} {Pa c : Addr} {F : List Fl} {width ce wide x y : Int} {left : Bool} (h : CaseIs H Pa c F width ce wide x y left) (hP : PoolAt Pa H) (st : Pst Pa H H') : CaseIs H' Pa c F width ce wide x y left := by
  obtain ⟨⟨cl, pl, a, h1, h2, h3, h4⟩, g, f, w0, wd0, r, p, b⟩ := h
  exact ⟨⟨cl, pl, a, st.tup hP h1, st.tup hP h2, st.tup hP h3, h4.mono st.kp.hide⟩, g, f, w0, wd0, r, p, b⟩
theorem okCase (T : Top K w mg) : Ok P w K mg base CX0 4 "_law_case" ["pool"] spCase := by
  have GLawPick : Ok P w K mg base CX0 1 "_law_pick" ["pool", "many"] spPick := okPick T
  have GLawFar : Ok P w K mg base CX0 2 "_law_far" ["pool", "many"] spFar := okFar T
  have GLawWide : Ok P w K mg base CX0 3 "_law_wide" ["pool"] spWide := okWide T
  have GLawFloats : Ok P w K mg base CX0 2 "_law_floats" ["pool", "many", "width"] spFloats := okFloats T
  have GLawPlace : Ok P w K mg base CX0 2 "_law_place" ["floats", "width", "ceiling", "w", "side"] spLPlace := okLPlace T
  have GLawStretched : Ok P w K mg base CX0 1 "_law_stretched" ["floats", "columns", "rows", "moved"] spStretched := okStretched T
  have GLawStart : Ok P w K mg base CX0 1 "_law_start" ["floats", "ceiling"] spLStart := okLStart T
  have m_int := T.m_int
  refine mkOk T.f__law_case scLawCase (fun vs H Q E h => ?_) (fun f cdv A outer s H vs Q E hr h => ?_)
  · obtain ⟨_, rfl, _⟩ := h
    rfl
  · obtain ⟨Pa, rfl, hP, q⟩ := h
    refine ⟨_, pss_cons (ps_par (i := 1) (j := 2) rfl scLawCase.nd rfl rfl (by decide) rfl rfl (pa_cons (pe_ix ix_list (pe_lst (pa_cons (pcall GLawPick (hr.mono (by decide)) (by rfl) pass0 (pa_cons (pv 0) (pa_cons (pe_int) pa_nil))) (pa_cons (pe_int) (pa_cons (pe_int) pa_nil)))) (pcall GLawPick (hr.mono (by decide)) (by rfl) pass0 (pa_cons (pv 0) (pa_cons (pe_int) pa_nil))) (fun _ _ => rfl)) (pa_cons (pcall GLawPick (hr.mono (by decide)) (by rfl) pass0 (pa_cons (pv 0) (pa_cons (pe_int) pa_nil))) pa_nil)) (by rfl))
  (pss_cons (ps_if (pt_cmpR op_eq (pcall GLawPick (hr.mono (by decide)) (by rfl) pass0 (pa_cons (pv 0) (pa_cons (pe_int) pa_nil))) (pe_int) (nomark _))
  (pss_one (ps_set (i := 2) scLawCase.nd rfl (Or.inl rfl) (pe_op op_add (pe_int) (pcall GLawPick (hr.mono (by decide)) (by rfl) pass0 (pa_cons (pv 0) (pa_cons (pe_int) pa_nil))))))
  (pss_nil))
  (pss_cons (ps_set (i := 3) scLawCase.nd rfl (Or.inl rfl) (pcall GLawFloats (hr.mono (by decide)) (by rfl) pass0 (pa_cons (pv 0) (pa_cons (pv 2) (pa_cons (pv 1) pa_nil)))))
  (pss_cons (ps_par3 (i := 4) (j := 5) (l := 6) rfl scLawCase.nd rfl rfl rfl (by decide) (by decide) (by decide) rfl rfl rfl (pa_cons (pe_op op_sub (pcall GLawPick (hr.mono (by decide)) (by rfl) pass0 (pa_cons (pv 0) (pa_cons (pe_int) pa_nil))) (pe_int)) (pa_cons (pcall GLawPick (hr.mono (by decide)) (by rfl) pass0 (pa_cons (pv 0) (pa_cons (pe_int) pa_nil))) (pa_cons (pe_ix ix_list (pe_lst (pa_cons (pe_str) (pa_cons (pe_str) pa_nil))) (pcall GLawPick (hr.mono (by decide)) (by rfl) pass0 (pa_cons (pv 0) (pa_cons (pe_int) pa_nil))) (fun _ _ => rfl)) pa_nil))) (by rfl))
  (pss_cons (ps_asg (pcall GLawPlace (hr.mono (by decide)) (by rfl) pass0 (pa_cons (pv 3) (pa_cons (pv 1) (pa_cons (pv 4) (pa_cons (pv 5) (pa_cons (pv 6) pa_nil)))))) (pg_tup (n := 2) rfl (pgs_cons (pg_name (i := 7) scLawCase.nd rfl (Or.inl rfl)) (pgs_cons (pg_name (i := 8) scLawCase.nd rfl (Or.inl rfl)) pgs_nil))))
  (pss_cons (ps_par3 (i := 9) (j := 10) (l := 11) rfl scLawCase.nd rfl rfl rfl (by decide) (by decide) (by decide) rfl rfl rfl (pa_cons (pcall GLawWide (hr.mono (by decide)) (by rfl) pass0 (pa_cons (pv 0) pa_nil)) (pa_cons (pcall GLawWide (hr.mono (by decide)) (by rfl) pass0 (pa_cons (pv 0) pa_nil)) (pa_cons (pe_ix ix_list (pe_lst (pa_cons (pe_int) (pa_cons (pe_int) (pa_cons (pe_int) (pa_cons (pe_op op_sub (pe_int) (pe_int)) (pa_cons (pe_op op_pow (pe_int) (pe_int)) (pa_cons (pe_op op_sub (pe_int) (pe_op op_pow (pe_int) (pe_int))) pa_nil))))))) (pcall GLawPick (hr.mono (by decide)) (by rfl) pass0 (pa_cons (pv 0) (pa_cons (pe_int) pa_nil))) (fun _ _ => rfl)) pa_nil))) (by rfl))
  (pss_cons (ps_set (i := 12) scLawCase.nd rfl (Or.inl rfl) (pe_op op_mul (pe_callTy call_intB (by rfl) m_int (by decide +kernel) (pa_cons (pe_cmpR op_gt (pv 5) (pe_int) (nomark _)) pa_nil)) (pe_op op_mod (pe_callTy call_intI (by rfl) m_int (by decide +kernel) (pa_cons (pcall GLawFar (hr.mono (by decide)) (by rfl) pass0 (pa_cons (pv 0) (pa_cons (pe_int) pa_nil))) pa_nil)) (pv 9))))
  (pss_cons (ps_set (i := 13) scLawCase.nd rfl (Or.inl rfl) (pe_tup (pa_cons (pcall GLawStretched (hr.mono (by decide)) (by rfl) pass0 (pa_cons (pv 3) (pa_cons (pv 9) (pa_cons (pv 10) (pa_cons (pv 11) pa_nil))))) (pa_cons (pe_op op_mul (pv 9) (pv 1)) (pa_cons (pe_op op_add (pe_op op_mul (pv 10) (pv 4)) (pv 11)) (pa_cons (pe_op op_sub (pe_op op_mul (pv 9) (pv 5)) (pv 12)) (pa_cons (pv 6) pa_nil)))))))
  (pss_cons (ps_set (i := 14) scLawCase.nd rfl (Or.inl rfl) (pe_tup (pa_cons (pe_op op_add (pe_op op_mul (pv 9) (pv 7)) (pe_op op_mul (pv 12) (pe_callTy call_intB (by rfl) m_int (by decide +kernel) (pa_cons (pe_cmpR op_eq (pv 6) (pe_str) (nomark _)) pa_nil)))) (pa_cons (pe_op op_add (pe_op op_mul (pv 10) (pv 8)) (pv 11)) pa_nil))))
  (pss_one (ps_ret (pe_tup (pa_cons (pv 13) (pa_cons (pv 14) (pa_cons (pcall GLawStart (hr.mono (by decide)) (by rfl) pass0 (pa_cons (pe_ix ix_tup (pv 13) (pe_int) (fun _ _ => rfl)) (pa_cons (pe_ix ix_tup (pv 13) (pe_int) (fun _ _ => rfl)) pa_nil))) pa_nil)))))))))))))), ?_⟩
    refine seq3_abs (fun σ H1 => ∃ (F : List Fl) (wd : Int) (n : Nat) (a : Addr), σ = [some (.ref Pa), some (.int wd), some (.int (n : Nat)), some (.ref a), none, none, none, none, none, none, none, none, none, none, none] ∧ Pst Pa H H1 ∧ 0 ≤ wd ∧ wd ≤ 24 ∧ n ≤ 100 ∧ MadeF F n wd ∧ Rep (hide [Pa] H1) (flsD F) (.ref a)) (fun R hR => ?_) ?_
    · (try simp only [cx_K, cx_w, rIn, rMulS, CwR.tReplC, tM1, tBM0, rPop, rExtend, rReverse, rLenS, rEqE, rNeE, rSetL, rIntI, rIntB, tBM, rAppend, rIxL, rIxT, rCat, rSlL, rSlS, gTup, tYes, wipe, tSeq, tAsg, tIfS, tRet, tRetN, tDrop, tNext, tBreak, tCont, tNever, tAug, ipI, tPar, tPar3, gName, gCons, gNil, gSub, tVar, tC, tOp, tUn, tIf, tAndV, tOrV, tNotV, tAnd, tOr, tNot, L2.tB, tTest, tCmp, tChain, tCB, tCons, tNil, tCall, tCallS, tTup, tLst, tSl, tPart, tNoPart, rI, rI0, rU, rEq, rNe, scal_ii, scal_ss, scal_bb, scal_nn, scal_is, scal_si, rIxS, S_len, S_cps, S_inj, L2.start, List.map_cons, List.map_nil, List.cons_append, List.nil_append, List.append_nil, List.getElem?_cons_zero, List.getElem?_cons_succ, List.set_cons_zero, List.set_cons_succ, List.length_cons, List.length_nil, Nat.reduceAdd, Nat.reduceSub, List.replicate_succ, List.replicate_zero, Option.some.injEq, V.int.injEq, V.str.injEq, V.bl.injEq, V.ref.injEq, List.cons.injEq, and_true, true_and, exists_eq_left, exists_eq_left', exists_and_left, exists_eq, exists_eq', decide_eq_true_eq, Bool.not_eq_true', decide_eq_false_iff_not, Bool.false_eq_true, if_false, if_true, reduceIte, ite_self, CMul, CPow, CDiv])
      refine ⟨Pa, 25, rfl, hP, by decide, fun z0 H1 z00 z01 st1 => ⟨by decide, fun p hp => ⟨Pa, 3, rfl, (st1.new hp).pool, by decide, fun k H2 k0 k1 st2 => ?_⟩⟩⟩
      obtain ⟨wd, ew, hw⟩ := ints_mem (ns := [z0, 10, 0]) k0 k1
      have hw2 : 0 ≤ wd ∧ wd ≤ 24 := by
        simp only [List.mem_cons, List.not_mem_nil, or_false] at hw
        omega
      have st02 := (st1.new (o := .lst [.int z0, .int 10, .int 0]) hp).trans st2
      refine ⟨_, k, rfl, SqL.of (lst_keep st1 hp st2), _, ew, Pa, 10, rfl, st02.pool, by decide, fun mn H3 mn0 mn1 st3 => ⟨_, _, ⟨rfl, rfl⟩, Pa, 40, rfl, st3.pool, by decide, fun z4 H4 _ _ st4 => ⟨rfl, ?_⟩⟩⟩
      have st04 := (st02.trans st3).trans st4
      refine ite2 (fun _ => ⟨Pa, 41, rfl, st4.pool, by decide, fun z5 H5 z50 z51 st5 => ⟨z5, rfl, ?_⟩⟩) (fun _ => ?_)
      · obtain ⟨n, hn⟩ := Int.eq_ofNat_of_zero_le (show 0 ≤ 60 + z5 by omega)
        rw [hn]
        exact ⟨Pa, n, wd, rfl, st5.pool, by omega, hw2.1, hw2.2, fun F t H6 hM st6 ht hF => hR _ _ ⟨F, wd, n, t, rfl, (st04.trans st5).trans st6, hw2.1, hw2.2, by omega, hM, hF.mono (since_hide st5.pool.ne)⟩⟩
      · obtain ⟨n, rfl⟩ := Int.eq_ofNat_of_zero_le mn0
        exact ⟨Pa, n, wd, rfl, st4.pool, by omega, hw2.1, hw2.2, fun F t H6 hM st6 ht hF => hR _ _ ⟨F, wd, n, t, rfl, st04.trans st6, hw2.1, hw2.2, by omega, hM, hF.mono (since_hide st4.pool.ne)⟩⟩
    · rintro σ H1 ⟨F, wd, n, a, rfl, st1, w0, w1, hn, hM, hF⟩
      have h100 : F.length ≤ 100 := by rw [hM.len]; exact hn
      have hst : ∀ ce, -3 ≤ ce → ce ≤ 10 → -3 ≤ startOf F ce ∧ startOf F ce ≤ 320 := fun ce h1 h2 => by
        have hge := start_ge (F := F) (c := ce)
        have hle : startOf F ce ≤ 320 := by
          unfold startOf
          cases hl : F.getLast? with
          | none => show ce ≤ 320; omega
          | some g =>
            have := (hM.bd g (List.mem_of_getLast? hl)).2.2.2.2.2.2
            show max ce g.t ≤ 320
            omega
        omega
      refine seq2_abs (fun σ H2 => ∃ (ce wide x y : Int) (left : Bool), σ = [some (.ref Pa), some (.int wd), some (.int (n : Nat)), some (.ref a), some (.int ce), some (.int wide), some (.str (S (sideT left))), some (.int x), some (.int y), none, none, none, none, none, none] ∧ Pst Pa H H2 ∧ Rep (hide [Pa] H2) (flsD F) (.ref a) ∧ -3 ≤ ce ∧ ce ≤ 10 ∧ 0 ≤ wide ∧ wide ≤ 26 ∧ IsRow F 0 wd wide (startOf F ce) y ∧ x = atOf F 0 wd wide left y) (fun R hR => ?_) ?_
      · (try simp only [cx_K, cx_w, rIn, rMulS, CwR.tReplC, tM1, tBM0, rPop, rExtend, rReverse, rLenS, rEqE, rNeE, rSetL, rIntI, rIntB, tBM, rAppend, rIxL, rIxT, rCat, rSlL, rSlS, gTup, tYes, wipe, tSeq, tAsg, tIfS, tRet, tRetN, tDrop, tNext, tBreak, tCont, tNever, tAug, ipI, tPar, tPar3, gName, gCons, gNil, gSub, tVar, tC, tOp, tUn, tIf, tAndV, tOrV, tNotV, tAnd, tOr, tNot, L2.tB, tTest, tCmp, tChain, tCB, tCons, tNil, tCall, tCallS, tTup, tLst, tSl, tPart, tNoPart, rI, rI0, rU, rEq, rNe, scal_ii, scal_ss, scal_bb, scal_nn, scal_is, scal_si, rIxS, S_len, S_cps, S_inj, L2.start, List.map_cons, List.map_nil, List.cons_append, List.nil_append, List.append_nil, List.getElem?_cons_zero, List.getElem?_cons_succ, List.set_cons_zero, List.set_cons_succ, List.length_cons, List.length_nil, Nat.reduceAdd, Nat.reduceSub, List.replicate_succ, List.replicate_zero, Option.some.injEq, V.int.injEq, V.str.injEq, V.bl.injEq, V.ref.injEq, List.cons.injEq, and_true, true_and, exists_eq_left, exists_eq_left', exists_and_left, exists_eq, exists_eq', decide_eq_true_eq, Bool.not_eq_true', decide_eq_false_iff_not, Bool.false_eq_true, if_false, if_true, reduceIte, ite_self, CMul, CPow, CDiv])
        refine ⟨Pa, 14, rfl, st1.pool, by decide, fun c0 H2 c00 c01 st2 => ⟨c0, rfl, Pa, 27, rfl, st2.pool, by decide, fun wi H3 wi0 wi1 st3 => ⟨by decide, fun p hp => ⟨Pa, 2, rfl, (st3.new hp).pool, by decide, fun k H4 k0 k1 st4 => ?_⟩⟩⟩⟩
        obtain ⟨sv, es, hs⟩ := atI_mem (xs := [V.str (Str.ofString "left"), V.str (Str.ofString "right")]) k0 k1
        obtain ⟨left, rfl⟩ : ∃ b, sv = .str (S (sideT b)) := by
          simp only [List.mem_cons, List.not_mem_nil, or_false] at hs
          rcases hs with rfl | rfl
          · exact ⟨true, rfl⟩
          · exact ⟨false, rfl⟩
        have st14 := (st2.trans (st3.new (o := .lst [.str (Str.ofString "left"), .str (Str.ofString "right")]) hp)).trans st4
        have hF4 := hF.mono st14.kp.hide
        have hs2 := hst (c0 - 3) (by omega) (by omega)
        refine ⟨_, k, rfl, SqL.of (lst_keep st3 hp st4), _, es, _, _, _, ⟨rfl, rfl, rfl⟩, .ref a, F, wd, c0 - 3, wi, left, rfl, hF4.mono hide_sub, by omega, hM.sorted, fun f hf => (hM.bd f hf).2.2.1, by omega, by omega, fun y t H5 hRow s5 ht et => ⟨t, rfl, _, SqT.of et, rfl, _, _, rfl, _, _, rfl, rfl, hR _ _ ⟨c0 - 3, wi, _, y, left, rfl, (st1.trans st14).same s5, hF4.mono s5.hide, by omega, by omega, wi0, by omega, hRow, rfl⟩⟩⟩
      · rintro σ H2 ⟨ce, wide, x, y, left, rfl, st2, hF2, c0, c1, wi0, wi1, hRow, hx⟩
        refine seq2_abs (fun σ H3 => ∃ (k m v less : Int), σ = [some (.ref Pa), some (.int wd), some (.int (n : Nat)), some (.ref a), some (.int ce), some (.int wide), some (.str (S (sideT left))), some (.int x), some (.int y), some (.int k), some (.int m), some (.int v), some (.int less), none, none] ∧ Pst Pa H2 H3 ∧ 0 < k ∧ k ≤ 1000000000 ∧ 0 < m ∧ m ≤ 1000000000 ∧ -1000000000 ≤ v ∧ v ≤ 1000000000 ∧ 0 ≤ less ∧ less < k ∧ (wide = 0 → less = 0)) (fun R hR => ?_) ?_
        · (try simp only [cx_K, cx_w, rIn, rMulS, CwR.tReplC, tM1, tBM0, rPop, rExtend, rReverse, rLenS, rEqE, rNeE, rSetL, rIntI, rIntB, tBM, rAppend, rIxL, rIxT, rCat, rSlL, rSlS, gTup, tYes, wipe, tSeq, tAsg, tIfS, tRet, tRetN, tDrop, tNext, tBreak, tCont, tNever, tAug, ipI, tPar, tPar3, gName, gCons, gNil, gSub, tVar, tC, tOp, tUn, tIf, tAndV, tOrV, tNotV, tAnd, tOr, tNot, L2.tB, tTest, tCmp, tChain, tCB, tCons, tNil, tCall, tCallS, tTup, tLst, tSl, tPart, tNoPart, rI, rI0, rU, rEq, rNe, scal_ii, scal_ss, scal_bb, scal_nn, scal_is, scal_si, rIxS, S_len, S_cps, S_inj, L2.start, List.map_cons, List.map_nil, List.cons_append, List.nil_append, List.append_nil, List.getElem?_cons_zero, List.getElem?_cons_succ, List.set_cons_zero, List.set_cons_succ, List.length_cons, List.length_nil, Nat.reduceAdd, Nat.reduceSub, List.replicate_succ, List.replicate_zero, Option.some.injEq, V.int.injEq, V.str.injEq, V.bl.injEq, V.ref.injEq, List.cons.injEq, and_true, true_and, exists_eq_left, exists_eq_left', exists_and_left, exists_eq, exists_eq', decide_eq_true_eq, Bool.not_eq_true', decide_eq_false_iff_not, Bool.false_eq_true, if_false, if_true, reduceIte, ite_self, CMul, CPow, CDiv])
          refine ⟨Pa, rfl, st2.pool, fun k H3 k0 k1 st3 => ⟨Pa, rfl, st3.pool, fun m H4 m0 m1 st4 => ⟨⟨by decide, by decide, by decide⟩, ⟨by decide, by decide, by decide⟩, by decide, fun p hp => ⟨Pa, 6, rfl, (st4.new hp).pool, by decide, fun q6 H5 q0 q1 st5 => ?_⟩⟩⟩⟩
          obtain ⟨v, ev, hv⟩ := ints_mem (ns := [0, 0, 5, 0 - 7, 10 ^ Int.toNat 9, 0 - 10 ^ Int.toNat 9]) q0 q1
          have hv2 : -1000000000 ≤ v ∧ v ≤ 1000000000 := by
            have e9 : (10 : Int) ^ Int.toNat 9 = 1000000000 := by decide
            simp only [e9, List.mem_cons, List.not_mem_nil, or_false] at hv
            omega
          have st25 := (st3.trans (st4.new (o := .lst [V.int 0, V.int 0, V.int 5, V.int (0 - 7), V.int (10 ^ Int.toNat 9), V.int (0 - 10 ^ Int.toNat 9)]) hp)).trans st5
          refine ⟨_, q6, rfl, SqL.of (lst_keep st4 hp st5), _, ev, _, _, _, ⟨rfl, rfl, rfl⟩, Pa, 200000, rfl, st5.pool, by decide, fun fr H6 fr0 fr1 st6 => ⟨fr, rfl, k, rfl, by omega, .inl ?_, hR _ _ ⟨k, m, v, _, rfl, st25.trans st6, by omega, by omega, by omega, by omega, hv2.1, hv2.2, ?_, ?_, ?_⟩⟩⟩
          · split <;> exact ⟨by decide, by decide⟩
          · have := Int.emod_nonneg fr (show k ≠ 0 by omega)
            split <;> omega
          · have := Int.emod_lt_of_pos fr (show 0 < k by omega)
            have := Int.emod_nonneg fr (show k ≠ 0 by omega)
            split <;> omega
          · intro h0
            rw [if_neg (by omega), Int.zero_mul]
        · rintro σ H3 ⟨k, m, v, less, rfl, st3, k0, k1, m0, m1, v0, v1, l0, l1, lw⟩
          (try simp only [cx_K, cx_w, rIn, rMulS, CwR.tReplC, tM1, tBM0, rPop, rExtend, rReverse, rLenS, rEqE, rNeE, rSetL, rIntI, rIntB, tBM, rAppend, rIxL, rIxT, rCat, rSlL, rSlS, gTup, tYes, wipe, tSeq, tAsg, tIfS, tRet, tRetN, tDrop, tNext, tBreak, tCont, tNever, tAug, ipI, tPar, tPar3, gName, gCons, gNil, gSub, tVar, tC, tOp, tUn, tIf, tAndV, tOrV, tNotV, tAnd, tOr, tNot, L2.tB, tTest, tCmp, tChain, tCB, tCons, tNil, tCall, tCallS, tTup, tLst, tSl, tPart, tNoPart, rI, rI0, rU, rEq, rNe, scal_ii, scal_ss, scal_bb, scal_nn, scal_is, scal_si, rIxS, S_len, S_cps, S_inj, L2.start, List.map_cons, List.map_nil, List.cons_append, List.nil_append, List.append_nil, List.getElem?_cons_zero, List.getElem?_cons_succ, List.set_cons_zero, List.set_cons_succ, List.length_cons, List.length_nil, Nat.reduceAdd, Nat.reduceSub, List.replicate_succ, List.replicate_zero, Option.some.injEq, V.int.injEq, V.str.injEq, V.bl.injEq, V.ref.injEq, List.cons.injEq, and_true, true_and, exists_eq_left, exists_eq_left', exists_and_left, exists_eq, exists_eq', decide_eq_true_eq, Bool.not_eq_true', decide_eq_false_iff_not, Bool.false_eq_true, if_false, if_true, reduceIte, ite_self, CMul, CPow, CDiv])
          have hF3 := hF2.mono st3.kp.hide
          have st03 := st2.trans st3
          have hb' : ∀ f ∈ F.map (strF k m v), f.l ≤ f.r ∧ f.t ≤ f.b := fun f hf => by
            obtain ⟨g, hg, rfl⟩ := List.mem_map.mp hf
            have := hM.bd g hg
            exact ⟨Int.mul_le_mul_of_nonneg_left this.1 (by omega), (aff_le m0).mpr this.2.1⟩
          have hs' := sorted_str (k := k) (v := v) m0 hM.sorted
          have hl' : (F.map (strF k m v)).length ≤ 100 := by rw [List.length_map]; exact h100
          have hG' := good_ok hb' hs' (by omega)
          have hst' : startOf (F.map (strF k m v)) (m * ce + v) = m * startOf F ce + v := start_str m0
          have hRow' : IsRow (F.map (strF k m v)) 0 (k * wd) (k * wide - less) (startOf (F.map (strF k m v)) (m * ce + v)) (m * y + v) := by
            obtain ⟨ns, hB⟩ := bots_ex (F.map (strF k m v)) (startOf (F.map (strF k m v)) (m * ce + v))
            have hr' := row_is (lo := 0) (hi := k * wd) (w := k * wide - less) (tops_start (c := m * ce + v) hs') hB
            have e := row_str k0 m0 l0 l1 hRow (by rw [← hst']; exact hr')
            rw [e] at hr'
            exact hr'
          have hat : k * x + less * (if S (sideT left) = Str.ofString "right" then 1 else 0) = atOf (F.map (strF k m v)) 0 (k * wd) (k * wide - less) left (m * y + v) := by
            rw [at_str k0 m0, ← hx]
            cases left with
            | true => rw [if_neg (by decide +kernel), Int.mul_zero]; rfl
            | false => rw [if_pos (by decide +kernel), Int.mul_one]; rfl
          have hwd' : 0 ≤ k * wide - less := by
            by_cases h0 : wide = 0
            · rw [lw h0, h0]
              simp
            · have := Int.mul_le_mul_of_nonneg_left (show 1 ≤ wide by omega) (show 0 ≤ k by omega)
              omega
          have hw' : 0 ≤ k * wd := Int.mul_nonneg (by omega) w0
          have hs3 := hst ce c0 c1
          have hy7 : y ≤ 327 := by
            rcases hRow.bot with e | ⟨f, hf, e⟩
            · omega
            · have := hM.bd f hf
              omega
          have hy1 : m * y ≤ m * 327 := Int.mul_le_mul_of_nonneg_left hy7 (by omega)
          have hst1 : m * (-3) ≤ m * startOf F ce := Int.mul_le_mul_of_nonneg_left hs3.1 (by omega)
          refine ⟨.ref a, F, k, m, v, rfl, hF3.mono hide_sub, by omega, k0, k1, m0, m1, fun b H4 s4 hb hFb => ⟨.inl ⟨by omega, by omega⟩, .inl ⟨by omega, by omega⟩, .inl ⟨by omega, by omega⟩, by decide, fun p hp => ⟨.inl ⟨by omega, by omega⟩, .inl ⟨by omega, by omega⟩, .inl ⟨by omega, by omega⟩, by decide, fun p1 hp1 => ?_⟩⟩⟩
          have st04 := st03.same s4
          have hFb' := hFb.mono (since_hide st03.pool.ne)
          have sx := (Same.new (o := .tup [.ref b, .int (k * wd), .int (m * ce + v), .int (k * wide - less), .str (S (sideT left))]) hp).trans (Same.new (o := .tup [.int (k * x + less * (if S (sideT left) = Str.ofString "right" then 1 else 0)), .int (m * y + v)]) hp1)
          have st06 := st04.same sx
          have ep := (Same.new (o := .tup [.int (k * x + less * (if S (sideT left) = Str.ofString "right" then 1 else 0)), .int (m * y + v)]) hp1) p _ (upd_same (H := H4) (o := .tup [.ref b, .int (k * wd), .int (m * ce + v), .int (k * wide - less), .str (S (sideT left))]))
          have hF6 := hFb'.mono sx.hide
          refine ⟨_, SqT.of ep, _, at_nat (i := 0) rfl, _, SqT.of ep, _, at_nat (i := 2) rfl, .ref b, F.map (strF k m v), m * ce + v, rfl, hF6.mono hide_sub, by omega, hs', fun H5 s5 => ⟨by decide, fun c hc => ?_⟩⟩
          have st07 := st06.same s5
          have sc : Same (since H H4) (since H (upd H5 c (.tup [.ref p, .ref p1, .int (startOf (F.map (strF k m v)) (m * ce + v))]))) := fun b o e => by
            obtain ⟨e1, e2⟩ := since_some.mp e
            exact since_some.mpr ⟨e1, (Same.new hc) _ _ (s5 _ _ (sx _ _ e2))⟩
          have hFs : Rep (hide [Pa] (since H (upd H5 c (.tup [.ref p, .ref p1, .int (startOf (F.map (strF k m v)) (m * ce + v))])))) (flsD (F.map (strF k m v))) (.ref b) := by
            refine (hFb.mono ((Pst.since2 st03).trans sc)).mono (fun z o e => hide_some.mpr ⟨fun hz => ?_, e⟩) |> id
            have : z = Pa := by simpa using hz
            rw [this] at e
            exact hP.ne (since_some.mp e).1
          have fp := st04.free hp
          have fp1 := (st04.new (o := .tup [.ref b, .int (k * wd), .int (m * ce + v), .int (k * wide - less), .str (S (sideT left))]) hp).free hp1
          refine q c (F.map (strF k m v)) (k * wd) (m * ce + v) (k * wide - less) _ (m * y + v) left _ ⟨⟨p, p1, b, since_some.mpr ⟨st07.free hc, upd_same⟩, since_some.mpr ⟨fp, (Same.new hc) _ _ (s5 _ _ ep)⟩, since_some.mpr ⟨fp1, (Same.new hc) _ _ (s5 _ _ upd_same)⟩, hFs⟩, hG', hl', hw', hwd', hRow', hat, fun z h1 h2 => ?_⟩ (st07.new hc)
          rw [hst'] at h1
          omega
end
end K92


namespace K92
open PySem PySem.Spec PyProof.Rows L2 KB KG
section
variable {P : Program} {w : World} {K : PySem.W.Frag} {mg : Str → Option Value} {base : Heap} {cP cB : Addr}
/-- what stands while a case is asked -/
structure Sit (H : Hp) (Pa c cl pl a hd : Addr) (F : List Fl) (width ce wide x y : Int) (left : Bool) : Prop where
  pool : PoolAt Pa H
  hc : H c = some (.tup [.ref cl, .ref pl, .int (startOf F ce)])
  hcl : H cl = some (.tup [.ref a, .int width, .int ce, .int wide, .str (S (sideT left))])
  hpl : H pl = some (.tup [.int x, .int y])
  rf : Rep (hide [Pa] H) (flsD F) (.ref a)
  rh : Rep (hide [Pa] H) (flsD F) (.ref hd)
theorem Sit.mono {H H' : Hp} {Pa c cl pl a hd : Addr} {F : List Fl} {width ce wide x y : Int} {left : Bool} (h : Sit H Pa c cl pl a hd F width ce wide x y left) (st : Pst Pa H H') : Sit H' Pa c cl pl a hd F width ce wide x y left :=
  ⟨st.pool, st.tup h.pool h.hc, st.tup h.pool h.hcl, st.tup h.pool h.hpl, h.rf.mono st.kp.hide, h.rh.mono st.kp.hide⟩
theorem Sit.same {H H' : Hp} {Pa c cl pl a hd : Addr} {F : List Fl} {width ce wide x y : Int} {left : Bool} (h : Sit H Pa c cl pl a hd F width ce wide x y left) (s : Same H H') : Sit H' Pa c cl pl a hd F width ce wide x y left := h.mono ((Pst.refl h.pool).same s)
theorem run_bounds {F : List Fl} {width w : Int} : ∀ {ps : List Stp} {row r : Int}, runD F width w row (ps.map stpD) = some r → row ≤ r ∧ ∀ s ∈ ps, row ≤ s.row ∧ s.row < s.stop ∧ s.stop ≤ r ∧ (∀ k, s.i = some k → k < F.length) ∧ ∀ k, s.j = some k → k < F.length
  | [], row, r, h => by
    have h : some row = some r := h
    exact ⟨Int.le_of_eq (Option.some.inj h), fun s hs => nomatch hs⟩
  | s :: ps, row, r, h => by
    have h : (match strD F width w row (stpD s) with | some r' => runD F width w r' (ps.map stpD) | none => none) = some r := h
    have hs : strD F width w row (stpD s) = if s.row = row ∧ s.row < s.stop ∧ (isNon (optD s.i) && isNon (optD s.j)) = false ∧ witD F width true s.row s.stop (optD s.i) = true ∧ witD F width false s.row s.stop (optD s.j) = true ∧ highN F width (numD F (optD s.j)) - lowN F (numD F (optD s.i)) < w then some s.stop else none := rfl
    rw [hs] at h
    by_cases hc : s.row = row ∧ s.row < s.stop ∧ (isNon (optD s.i) && isNon (optD s.j)) = false ∧ witD F width true s.row s.stop (optD s.i) = true ∧ witD F width false s.row s.stop (optD s.j) = true ∧ highN F width (numD F (optD s.j)) - lowN F (numD F (optD s.i)) < w
    · rw [if_pos hc] at h
      obtain ⟨c1, c2, _, c4, c5, _⟩ := hc
      obtain ⟨h1, h2⟩ := run_bounds h
      have num : ∀ {o : Option Nat} {side : Bool}, witD F width side s.row s.stop (optD o) = true → ∀ k, o = some k → k < F.length := fun {o side} hw k hk => by
        subst hk
        obtain ⟨k', f, e, ef, _⟩ := wit_num hw rfl
        have e : D.int (k : Nat) = D.int (k' : Nat) := e
        have : (k : Int) = k' := D.int.inj e
        have := (List.getElem?_eq_some_iff.mp ef).1
        omega
      refine ⟨by omega, fun x hx => ?_⟩
      cases hx with
      | head => exact ⟨by omega, c2, h1, num c4, num c5⟩
      | tail _ hx =>
        obtain ⟨d1, d2, d3, d4⟩ := h2 x hx
        exact ⟨by omega, d2, d3, d4⟩
    · rw [if_neg hc] at h
      cases h
theorem ps_small {F : List Fl} {width w st r : Int} {ps : List Stp} (h : runD F width w st (ps.map stpD) = some r) (hn : F.length ≤ 1000) (hl : ps.length ≤ 1001) (bd : ∀ z, st ≤ z → z ≤ r → z.natAbs < 999999999990) : PsSm ps := by
  obtain ⟨_, h2⟩ := run_bounds h
  refine ⟨hl, fun s hs => ?_⟩
  obtain ⟨a, b, c, d, e⟩ := h2 s hs
  have sm : ∀ {o : Option Nat}, (∀ k, o = some k → k < F.length) → smD 0 (optD o) = true := fun {o} h => by
    cases o with
    | none => rfl
    | some k =>
      have := h k rfl
      exact decide_eq_true (by omega)
  exact ⟨bd _ a (by omega), bd _ (by omega) c, sm d, sm e⟩
theorem PsSm.smO {ps : List Stp} (h : PsSm ps) : SmO (some (.lst (ps.map stpD))) := fun d e => by
  cases e
  have := h.len
  rw [sm_lst4, dsize, ds_ps]
  exact ⟨sm_ps (n := 3) h.bd, by omega⟩
theorem right_run {F : List Fl} {width w st r : Int} {ds : List D} (h : runD F width w st ds = some r) : rightD F width w st r (some (.lst ds)) = true := decide_eq_true h
theorem place_eq {x y : Int} : isPlace x y (some (.tup [.int x, .int y])) = true := by
  show (decide (x = x) && decide (y = y)) = true
  simp
def spAsked : Sp := fun vs H Q _ => ∃ Pa c F width ce wide x y left, vs = [.ref Pa, .ref c] ∧ PoolAt Pa H ∧ CaseIs H Pa c F width ce wide x y left ∧ ∀ H', Pst Pa H H' → Q (.bl true) H'
theorem okAsked (T : Top K w mg) (XT : ExcTop K mg cP cB) : GOk P w K mg base 8 "_law_asked" ["pool", "case"] spAsked := by
  have GLawPick : Ok P w K mg base CX0 1 "_law_pick" ["pool", "many"] spPick := okPick T
  have GLawSame : Ok P w K mg base CX0 1 "_law_same" ["told", "due"] spSame := okSame T
  have GFloatAt : Ok P w K mg base CX0 5 "float_at" ["floats", "width", "ceiling", "w", "side"] spAt := okAt T
  have GFloatPaper : Ok P w K mg base CX0 6 "float_paper" ["floats", "width", "ceiling", "w", "side"] spPaper := okPaper T
  have GLawRight : Ok P w K mg base CX0 3 "_law_right" ["floats", "width", "w", "start", "stop", "value"] spLRight := okLRight T
  have GLawJudged : GOk P w K mg base 7 "_law_judged" ["case", "place", "value", "due"] spJudged := okJudged T
  have GLawMade : Ok P w K mg base CX0 3 "_law_made" ["pool", "floats", "width", "w", "start", "stop"] spMade := okMade T
  have GLawOtherPlace : Ok P w K mg base CX0 2 "_law_other_place" ["pool", "place"] spOther := okOther T
  have GLawSpoilt : Ok P w K mg base CX0 4 "_law_spoilt" ["pool", "paper", "many"] spSpoilt := okSpoilt T
  have GLawWrong : Ok P w K mg base CX0 3 "_law_wrong" ["pool", "call"] spWrong := okWrong T
  have GLawRefused : Ok P w K mg base CX0 7 "_law_refused" ["which", "call", "place", "paper"] spRefused := okRefused T XT
  have m_list := T.m_list
  have m_len := T.m_len
  have m_range := T.m_range
  refine mkG T.f__law_asked scLawAsked (fun vs H Q E h => ?_) (fun f cdv A outer s H vs Q E hgd hr h => ?_)
  · obtain ⟨_, _, _, _, _, _, _, _, _, rfl, _⟩ := h
    rfl
  · obtain ⟨Pa, c, F, width, ce, wide, x, y, left, rfl, hP, hC, q⟩ := h
    refine ⟨_, pss_cons (ps_asg (pv 1) (pg_tup (n := 3) rfl (pgs_cons (pg_name (i := 2) scLawAsked.nd rfl (Or.inl rfl)) (pgs_cons (pg_name (i := 3) scLawAsked.nd rfl (Or.inl rfl)) (pgs_cons (pg_name (i := 4) scLawAsked.nd rfl (Or.inl rfl)) pgs_nil)))))
  (pss_cons (ps_asg (pv 2) (pg_tup (n := 5) rfl (pgs_cons (pg_name (i := 5) scLawAsked.nd rfl (Or.inl rfl)) (pgs_cons (pg_name (i := 6) scLawAsked.nd rfl (Or.inl rfl)) (pgs_cons (pg_name (i := 7) scLawAsked.nd rfl (Or.inl rfl)) (pgs_cons (pg_name (i := 8) scLawAsked.nd rfl (Or.inl rfl)) (pgs_cons (pg_name (i := 9) scLawAsked.nd rfl (Or.inl rfl)) pgs_nil)))))))
  (pss_cons (ps_set (i := 10) scLawAsked.nd rfl (Or.inl rfl) (pe_callTy call_lstN (by rfl) m_list (by decide +kernel) (pa_cons (pv 5) pa_nil)))
  (pss_cons (ps_if (pt_not (pt_val (pcall GLawSame (hr.mono (by decide)) (by rfl) pass0 (pa_cons (pcall GFloatAt (hr.mono (by decide)) (by rfl) pass0 (pa_cons (pv 10) (pa_cons (pv 6) (pa_cons (pv 7) (pa_cons (pv 8) (pa_cons (pv 9) pa_nil)))))) (pa_cons (pv 3) pa_nil)))))
  (pss_one (ps_ret (pe_bl)))
  (pss_nil))
  (pss_cons (ps_for PassesOwn.never rfl (pi_range1 rfl m_range (pa_cons (pe_int) pa_nil)) (pg_name (i := 11) scLawAsked.nd rfl (Or.inl rfl))
  (pss_cons (ps_set (i := 12) scLawAsked.nd rfl (Or.inl rfl) (pcall GFloatPaper (hr.mono (by decide)) (by rfl) pass0 (pa_cons (pv 10) (pa_cons (pv 6) (pa_cons (pv 7) (pa_cons (pv 8) (pa_cons (pv 9) pa_nil)))))))
  (pss_cons (ps_if (PW.pt (pw_or (pt_not (pt_val (pcall GLawRight (hr.mono (by decide)) (by rfl) pass0 (pa_cons (pv 5) (pa_cons (pv 6) (pa_cons (pv 8) (pa_cons (pv 4) (pa_cons (pe_ix ix_tup (pv 3) (pe_int) (fun _ _ => rfl)) (pa_cons (pv 12) pa_nil))))))))) (pw_or1 (pt_not (pt_val (gcall GLawJudged hgd (hr.mono (by decide)) (by rfl) (pa_cons (pv 1) (pa_cons (pv 3) (pa_cons (pv 12) (pa_cons (pe_bl) pa_nil))))))))))
  (pss_one (ps_ret (pe_bl)))
  (pss_nil))
  (pss_one (ps_expr (pe_bm PySem.F.plainAttrs_list PySem.F.slot_list_append PySem.F.type_list_append mt_append (pv 12) (pa_cons (pe_non) pa_nil)))))))
  (pss_cons (ps_set (i := 13) scLawAsked.nd rfl (Or.inl rfl) (pcall GLawMade (hr.mono (by decide)) (by rfl) pass0 (pa_cons (pv 0) (pa_cons (pv 5) (pa_cons (pv 6) (pa_cons (pv 8) (pa_cons (pv 4) (pa_cons (pe_ix ix_tup (pv 3) (pe_int) (fun _ _ => rfl)) pa_nil))))))))
  (pss_cons (ps_if (PW.pt (pw_or (pt_not (pt_val (gcall GLawJudged hgd (hr.mono (by decide)) (by rfl) (pa_cons (pv 1) (pa_cons (pv 3) (pa_cons (pv 13) (pa_cons (pe_bl) pa_nil))))))) (pw_or1 (pt_not (pt_val (gcall GLawJudged hgd (hr.mono (by decide)) (by rfl) (pa_cons (pv 1) (pa_cons (pcall GLawOtherPlace (hr.mono (by decide)) (by rfl) pass0 (pa_cons (pv 0) (pa_cons (pv 3) pa_nil))) (pa_cons (pv 13) (pa_cons (pe_bl) pa_nil))))))))))
  (pss_one (ps_ret (pe_bl)))
  (pss_nil))
  (pss_cons (ps_for PassesOwn.never rfl (pi_range1 rfl m_range (pa_cons (pe_int) pa_nil)) (pg_name (i := 11) scLawAsked.nd rfl (Or.inl rfl))
  (pss_cons (ps_set (i := 14) scLawAsked.nd rfl (Or.inl rfl) (pcall GLawSpoilt (hr.mono (by decide)) (by rfl) pass0 (pa_cons (pv 0) (pa_cons (pv 13) (pa_cons (pe_callB (call_len_seqK (K := K) rfl) (by rfl) m_len PySem.boot_len (pa_cons (pv 5) pa_nil)) pa_nil)))))
  (pss_one (ps_if (pt_not (pt_val (gcall GLawJudged hgd (hr.mono (by decide)) (by rfl) (pa_cons (pv 1) (pa_cons (pv 3) (pa_cons (pv 14) (pa_cons (pcall GLawRight (hr.mono (by decide)) (by rfl) pass0 (pa_cons (pv 5) (pa_cons (pv 6) (pa_cons (pv 8) (pa_cons (pv 4) (pa_cons (pe_ix ix_tup (pv 3) (pe_int) (fun _ _ => rfl)) (pa_cons (pv 14) pa_nil))))))) pa_nil)))))))
  (pss_one (ps_ret (pe_bl)))
  (pss_nil)))))
  (pss_one (ps_ret (pe_and (pcall GLawSame (hr.mono (by decide)) (by rfl) pass0 (pa_cons (pv 10) (pa_cons (pv 5) pa_nil))) (pe_one (pcall GLawRefused (hr.mono (by decide)) (by rfl) pass0 (pa_cons (pcall GLawPick (hr.mono (by decide)) (by rfl) pass0 (pa_cons (pv 0) (pa_cons (pe_int) pa_nil))) (pa_cons (pcall GLawWrong (hr.mono (by decide)) (by rfl) pass0 (pa_cons (pv 0) (pa_cons (pv 2) pa_nil))) (pa_cons (pv 3) (pa_cons (pv 13) pa_nil)))))))))))))))), ?_⟩
    obtain ⟨⟨cl, pl, a, hc, hcl, hpl, hF⟩, hG, hfew, hw0, hwd0, hRow, hx, hbd⟩ := hC
    have r_pl : ∀ {G : Hp}, G pl = some (.tup [.int x, .int y]) → Rep G (.tup [.int x, .int y]) (.ref pl) := fun h => ⟨pl, _, rfl, h, _, _, rfl, rfl, _, _, rfl, rfl, rfl⟩
    have judge : ∀ {H' : Hp} {Qv : VK} {hd : Addr} (hS' : Sit H' Pa c cl pl a hd F width ce wide x y left) {xp xv : V} {op ov : Option D} {due : Bool}, RepO H' op xp → RepO H' ov xv → SmO ov → due = (isPlace x y op && rightD F width wide (startOf F ce) y ov) → (∀ H'', Same H' H'' → Qv (.bl true) H'') → spJudged [.ref c, xp, xv, .bl due] H' Qv E0 := fun {H' Qv hd} hS' {xp xv op ov due} h1 h2 h3 h4 h5 =>
      ⟨c, cl, .ref pl, .int (startOf F ce), a, xp, xv, due, F, width, ce, wide, left, op, ov, y, rfl, hS'.hc, hS'.hcl, hS'.rf.mono hide_sub, hG, hw0, hwd0, h1, h2, h3, hRow, by rw [← hx]; exact h4, h5⟩
    refine seq3_abs (fun σ H1 => ∃ hd : Addr, σ = [some (.ref Pa), some (.ref c), some (.ref cl), some (.ref pl), some (.int (startOf F ce)), some (.ref a), some (.int width), some (.int ce), some (.int wide), some (.str (S (sideT left))), some (.ref hd), none, none, none, none] ∧ Sit H1 Pa c cl pl a hd F width ce wide x y left ∧ Pst Pa H H1) (fun R hR => ?_) ?_
    · (try simp only [cx_K, cx_w, rIn, rMulS, CwR.tReplC, tM1, tBM0, rPop, rExtend, rReverse, rLenS, rEqE, rNeE, rSetL, rIntI, rIntB, tBM, rAppend, rIxL, rIxT, rCat, rSlL, rSlS, gTup, tYes, wipe, tSeq, tAsg, tIfS, tRet, tRetN, tDrop, tNext, tBreak, tCont, tNever, tAug, ipI, tPar, tPar3, gName, gCons, gNil, gSub, tVar, tC, tOp, tUn, tIf, tAndV, tOrV, tNotV, tAnd, tOr, tNot, L2.tB, tTest, tCmp, tChain, tCB, tCons, tNil, tCall, tCallS, tTup, tLst, tSl, tPart, tNoPart, rI, rI0, rU, rEq, rNe, scal_ii, scal_ss, scal_bb, scal_nn, scal_is, scal_si, rIxS, S_len, S_cps, S_inj, L2.start, List.map_cons, List.map_nil, List.cons_append, List.nil_append, List.append_nil, List.getElem?_cons_zero, List.getElem?_cons_succ, List.set_cons_zero, List.set_cons_succ, List.length_cons, List.length_nil, Nat.reduceAdd, Nat.reduceSub, List.replicate_succ, List.replicate_zero, Option.some.injEq, V.int.injEq, V.str.injEq, V.bl.injEq, V.ref.injEq, List.cons.injEq, and_true, true_and, exists_eq_left, exists_eq_left', exists_and_left, exists_eq, exists_eq', decide_eq_true_eq, Bool.not_eq_true', decide_eq_false_iff_not, Bool.false_eq_true, if_false, if_true, reduceIte, ite_self, CMul, CPow, CDiv])
      obtain ⟨a', xs, ea, ha, hX⟩ := id hF
      cases ea
      refine ⟨_, SqT.of hc, rfl, _, _, rfl, _, _, rfl, _, _, rfl, rfl, cl, rfl, _, SqT.of hcl, rfl, _, _, rfl, _, _, rfl, _, _, rfl, _, _, rfl, _, _, rfl, rfl, a, xs, rfl, .inl (SqL.of (hide_sub _ _ ha)), fun b hb => ?_⟩
      have st := (Pst.refl hP).new (o := .lst xs) hb
      refine hR _ _ ⟨b, rfl, ⟨st.pool, st.tup hP hc, st.tup hP hcl, st.tup hP hpl, hF.mono st.kp.hide, ⟨b, xs, rfl, hide_new ((Pst.refl hP).ne hb), hX.mono st.kp.hide⟩⟩, st⟩
    rintro σ H1 ⟨hd, rfl, hS, st1⟩
    clear hc hcl hpl hF
    refine seq1_abs (fun σ H2 => σ = [some (.ref Pa), some (.ref c), some (.ref cl), some (.ref pl), some (.int (startOf F ce)), some (.ref a), some (.int width), some (.int ce), some (.int wide), some (.str (S (sideT left))), some (.ref hd), none, none, none, none] ∧ Sit H2 Pa c cl pl a hd F width ce wide x y left ∧ Pst Pa H H2) (fun R hR => ?_) ?_
    · (try simp only [cx_K, cx_w, rIn, rMulS, CwR.tReplC, tM1, tBM0, rPop, rExtend, rReverse, rLenS, rEqE, rNeE, rSetL, rIntI, rIntB, tBM, rAppend, rIxL, rIxT, rCat, rSlL, rSlS, gTup, tYes, wipe, tSeq, tAsg, tIfS, tRet, tRetN, tDrop, tNext, tBreak, tCont, tNever, tAug, ipI, tPar, tPar3, gName, gCons, gNil, gSub, tVar, tC, tOp, tUn, tIf, tAndV, tOrV, tNotV, tAnd, tOr, tNot, L2.tB, tTest, tCmp, tChain, tCB, tCons, tNil, tCall, tCallS, tTup, tLst, tSl, tPart, tNoPart, rI, rI0, rU, rEq, rNe, scal_ii, scal_ss, scal_bb, scal_nn, scal_is, scal_si, rIxS, S_len, S_cps, S_inj, L2.start, List.map_cons, List.map_nil, List.cons_append, List.nil_append, List.append_nil, List.getElem?_cons_zero, List.getElem?_cons_succ, List.set_cons_zero, List.set_cons_succ, List.length_cons, List.length_nil, Nat.reduceAdd, Nat.reduceSub, List.replicate_succ, List.replicate_zero, Option.some.injEq, V.int.injEq, V.str.injEq, V.bl.injEq, V.ref.injEq, List.cons.injEq, and_true, true_and, exists_eq_left, exists_eq_left', exists_and_left, exists_eq, exists_eq', decide_eq_true_eq, Bool.not_eq_true', decide_eq_false_iff_not, Bool.false_eq_true, if_false, if_true, reduceIte, ite_self, CMul, CPow, CDiv])
      refine ⟨.ref hd, F, width, ce, wide, left, rfl, hS.rh.mono hide_sub, hG, hw0, hwd0, fun ns t H2 hB s2 ht et => ?_⟩
      have e := (row_is (lo := 0) (hi := width) (w := wide) (tops_start (c := ce) hG.sorted) hB).uniq hRow
      have e : rowOf F 0 width ce wide ns = y := e
      rw [e, ← hx] at et
      refine ⟨.ref t, .ref pl, .tup [.int x, .int y], rfl, ⟨t, _, rfl, et, _, _, rfl, rfl, _, _, rfl, rfl, rfl⟩, r_pl (s2 _ _ hS.hpl), (show 3 ≤ 1000000 by decide), fun H3 s3 => ⟨_, rfl, ifF (fun z => nomatch z) (hR _ _ ⟨rfl, hS.same (s2.trans s3), st1.same (s2.trans s3)⟩)⟩⟩
    rintro σ H2 ⟨rfl, hS, st2⟩
    clear st1
    refine seq1_abs (fun σ H3 => ∃ e11 e12 : Option V, σ = [some (.ref Pa), some (.ref c), some (.ref cl), some (.ref pl), some (.int (startOf F ce)), some (.ref a), some (.int width), some (.int ce), some (.int wide), some (.str (S (sideT left))), some (.ref hd), e11, e12, none, none] ∧ Sit H3 Pa c cl pl a hd F width ce wide x y left ∧ Pst Pa H H3) (fun R hR => ?_) ?_
    · refine ⟨2, rfl, by decide, by decide, for_range (lo := 0) (n := ((2 : Int)).toNat) (fun i σ H3 => ∃ e11 e12 : Option V, σ = [some (.ref Pa), some (.ref c), some (.ref cl), some (.ref pl), some (.int (startOf F ce)), some (.ref a), some (.int width), some (.int ce), some (.int wide), some (.str (S (sideT left))), some (.ref hd), e11, e12, none, none] ∧ Sit H3 Pa c cl pl a hd F width ce wide x y left ∧ Pst Pa H H3) ?_ ?_ ?_⟩
      · exact ⟨_, _, rfl, hS, st2⟩
      · rintro i σ H3 hi ⟨e11, e12, rfl, hS3, st3⟩
        (try simp only [cx_K, cx_w, rIn, rMulS, CwR.tReplC, tM1, tBM0, rPop, rExtend, rReverse, rLenS, rEqE, rNeE, rSetL, rIntI, rIntB, tBM, rAppend, rIxL, rIxT, rCat, rSlL, rSlS, gTup, tYes, wipe, tSeq, tAsg, tIfS, tRet, tRetN, tDrop, tNext, tBreak, tCont, tNever, tAug, ipI, tPar, tPar3, gName, gCons, gNil, gSub, tVar, tC, tOp, tUn, tIf, tAndV, tOrV, tNotV, tAnd, tOr, tNot, L2.tB, tTest, tCmp, tChain, tCB, tCons, tNil, tCall, tCallS, tTup, tLst, tSl, tPart, tNoPart, rI, rI0, rU, rEq, rNe, scal_ii, scal_ss, scal_bb, scal_nn, scal_is, scal_si, rIxS, S_len, S_cps, S_inj, L2.start, List.map_cons, List.map_nil, List.cons_append, List.nil_append, List.append_nil, List.getElem?_cons_zero, List.getElem?_cons_succ, List.set_cons_zero, List.set_cons_succ, List.length_cons, List.length_nil, Nat.reduceAdd, Nat.reduceSub, List.replicate_succ, List.replicate_zero, Option.some.injEq, V.int.injEq, V.str.injEq, V.bl.injEq, V.ref.injEq, List.cons.injEq, and_true, true_and, exists_eq_left, exists_eq_left', exists_and_left, exists_eq, exists_eq', decide_eq_true_eq, Bool.not_eq_true', decide_eq_false_iff_not, Bool.false_eq_true, if_false, if_true, reduceIte, ite_self, CMul, CPow, CDiv])
        refine ⟨.ref hd, F, width, ce, wide, left, rfl, hS3.rh.mono hide_sub, hG, hw0, hwd0, fun r ps t xs H4 hRow' hrun hlen s4 ht et hxs => ?_⟩
        have e := hRow'.uniq hRow
        subst e
        have hS4 := hS3.same s4
        have rp : Rep H4 (.lst (ps.map stpD)) (.ref t) := ⟨t, xs, rfl, et, hxs.mono hide_sub⟩
        have hxl := hxs.length
        rw [List.length_map] at hxl
        refine ⟨_, SqT.of hS4.hpl, _, at_nat (i := 1) rfl, .ref a, F, width, wide, startOf F ce, r, .ref t, some (.lst (ps.map stpD)), rfl, hS4.rf.mono hide_sub, hG.2, rp, fun H5 s5 => ⟨_, rfl, ifF (by rw [right_run hrun]; exact fun z => nomatch z) (judge (hS4.same s5) (op := some (.tup [.int x, .int r])) (ov := some (.lst (ps.map stpD))) (r_pl (s5 _ _ hS4.hpl)) (rp.mono s5) (ps_small hrun hG.2 hlen hbd).smO (by rw [place_eq, right_run hrun]; rfl) fun H6 s6 => ⟨_, rfl, ifF (fun z => nomatch z) ?_⟩)⟩⟩
        have s46 := (s4.trans s5).trans s6
        have et6 := s6 _ _ (s5 _ _ et)
        exact ⟨.inl ⟨rfl, _, SqL.of et6⟩, t, rfl, xs, et6, sz5' (by omega), _, _, ⟨rfl, rfl⟩, hS3.same (s46.mut ht), st3.same (s46.mut ht)⟩
      · rintro σ H3 ⟨e11, e12, rfl, hS3, st3⟩
        exact hR _ _ ⟨_, _, rfl, hS3, st3⟩
    rintro σ H3 ⟨e11, e12, rfl, hS3, st3⟩
    clear hS st2
    refine seq1_abs (fun σ H4 => ∃ (mo : Addr) (ps : List Stp) (zs : List V), σ = [some (.ref Pa), some (.ref c), some (.ref cl), some (.ref pl), some (.int (startOf F ce)), some (.ref a), some (.int width), some (.int ce), some (.int wide), some (.str (S (sideT left))), some (.ref hd), e11, e12, some (.ref mo), none] ∧ Sit H4 Pa c cl pl a hd F width ce wide x y left ∧ Pst Pa H H4 ∧ hide [Pa] H4 mo = some (.lst zs) ∧ Reps (hide [Pa] H4) (ps.map stpD) zs ∧ runD F width wide (startOf F ce) (ps.map stpD) = some y ∧ ps.length ≤ 300) (fun R hR => ?_) ?_
    · (try simp only [cx_K, cx_w, rIn, rMulS, CwR.tReplC, tM1, tBM0, rPop, rExtend, rReverse, rLenS, rEqE, rNeE, rSetL, rIntI, rIntB, tBM, rAppend, rIxL, rIxT, rCat, rSlL, rSlS, gTup, tYes, wipe, tSeq, tAsg, tIfS, tRet, tRetN, tDrop, tNext, tBreak, tCont, tNever, tAug, ipI, tPar, tPar3, gName, gCons, gNil, gSub, tVar, tC, tOp, tUn, tIf, tAndV, tOrV, tNotV, tAnd, tOr, tNot, L2.tB, tTest, tCmp, tChain, tCB, tCons, tNil, tCall, tCallS, tTup, tLst, tSl, tPart, tNoPart, rI, rI0, rU, rEq, rNe, scal_ii, scal_ss, scal_bb, scal_nn, scal_is, scal_si, rIxS, S_len, S_cps, S_inj, L2.start, List.map_cons, List.map_nil, List.cons_append, List.nil_append, List.append_nil, List.getElem?_cons_zero, List.getElem?_cons_succ, List.set_cons_zero, List.set_cons_succ, List.length_cons, List.length_nil, Nat.reduceAdd, Nat.reduceSub, List.replicate_succ, List.replicate_zero, Option.some.injEq, V.int.injEq, V.str.injEq, V.bl.injEq, V.ref.injEq, List.cons.injEq, and_true, true_and, exists_eq_left, exists_eq_left', exists_and_left, exists_eq, exists_eq', decide_eq_true_eq, Bool.not_eq_true', decide_eq_false_iff_not, Bool.false_eq_true, if_false, if_true, reduceIte, ite_self, CMul, CPow, CDiv])
      refine ⟨_, SqT.of hS3.hpl, _, at_nat (i := 1) rfl, Pa, .ref a, F, width, wide, startOf F ce, y, rfl, hS3.pool, hS3.rf, hfew, hRow, tops_start hG.sorted, fun ps t xs H4 hrun hl st4 ht et hxs => ?_⟩
      have h1 := since_hide (H' := H4) hS3.pool.ne
      exact hR _ _ ⟨t, ps, xs, rfl, hS3.mono st4, st3.trans st4, h1 _ _ (since_some.mpr ⟨ht, et⟩), (hxs.mono hide_sub).mono h1, hrun, hl⟩
    rintro σ H4 ⟨mo, ps, zs, rfl, hS4, st4, hmo, hzs, hrun, hpl300⟩
    clear hS3 st3
    have hsm : PsSm ps := ps_small hrun hG.2 (by omega) hbd
    refine seq1_abs (fun σ H5 => σ = [some (.ref Pa), some (.ref c), some (.ref cl), some (.ref pl), some (.int (startOf F ce)), some (.ref a), some (.int width), some (.int ce), some (.int wide), some (.str (S (sideT left))), some (.ref hd), e11, e12, some (.ref mo), none] ∧ Sit H5 Pa c cl pl a hd F width ce wide x y left ∧ Pst Pa H H5 ∧ hide [Pa] H5 mo = some (.lst zs) ∧ Reps (hide [Pa] H5) (ps.map stpD) zs) (fun R hR => ?_) ?_
    · (try simp only [cx_K, cx_w, rIn, rMulS, CwR.tReplC, tM1, tBM0, rPop, rExtend, rReverse, rLenS, rEqE, rNeE, rSetL, rIntI, rIntB, tBM, rAppend, rIxL, rIxT, rCat, rSlL, rSlS, gTup, tYes, wipe, tSeq, tAsg, tIfS, tRet, tRetN, tDrop, tNext, tBreak, tCont, tNever, tAug, ipI, tPar, tPar3, gName, gCons, gNil, gSub, tVar, tC, tOp, tUn, tIf, tAndV, tOrV, tNotV, tAnd, tOr, tNot, L2.tB, tTest, tCmp, tChain, tCB, tCons, tNil, tCall, tCallS, tTup, tLst, tSl, tPart, tNoPart, rI, rI0, rU, rEq, rNe, scal_ii, scal_ss, scal_bb, scal_nn, scal_is, scal_si, rIxS, S_len, S_cps, S_inj, L2.start, List.map_cons, List.map_nil, List.cons_append, List.nil_append, List.append_nil, List.getElem?_cons_zero, List.getElem?_cons_succ, List.set_cons_zero, List.set_cons_succ, List.length_cons, List.length_nil, Nat.reduceAdd, Nat.reduceSub, List.replicate_succ, List.replicate_zero, Option.some.injEq, V.int.injEq, V.str.injEq, V.bl.injEq, V.ref.injEq, List.cons.injEq, and_true, true_and, exists_eq_left, exists_eq_left', exists_and_left, exists_eq, exists_eq', decide_eq_true_eq, Bool.not_eq_true', decide_eq_false_iff_not, Bool.false_eq_true, if_false, if_true, reduceIte, ite_self, CMul, CPow, CDiv])
      have rm : ∀ {H' : Hp}, Pst Pa H4 H' → Rep H' (.lst (ps.map stpD)) (.ref mo) := fun st => ⟨mo, zs, rfl, hide_sub _ _ (st.kp.hide _ _ hmo), (hzs.mono st.kp.hide).mono hide_sub⟩
      have p4 := Pst.refl hS4.pool
      refine judge hS4 (op := some (.tup [.int x, .int y])) (ov := some (.lst (ps.map stpD))) (r_pl hS4.hpl) (rm p4) hsm.smO (by rw [place_eq, right_run hrun]; rfl) fun H5 s5 => ⟨_, rfl, ifF (fun z => nomatch z) ⟨Pa, pl, x, y, rfl, (p4.same s5).pool, s5 _ _ hS4.hpl, fun o v H6 ho st6 hv => ?_⟩⟩
      have p6 := (p4.same s5).trans st6
      refine judge (hS4.mono p6) (hv.mono hide_sub) (ov := some (.lst (ps.map stpD))) (rm p6) hsm.smO (by rw [ho]; rfl) fun H7 s7 => ⟨_, rfl, ifF (fun z => nomatch z) ?_⟩
      have p7 := p6.same s7
      exact hR _ _ ⟨rfl, hS4.mono p7, st4.trans p7, p7.kp.hide _ _ hmo, hzs.mono p7.kp.hide⟩
    rintro σ H5 ⟨rfl, hS5, st5, hmo5, hzs5⟩
    clear hS4 st4 hmo hzs
    refine seq1_abs (fun σ H6 => ∃ e11 e14 : Option V, σ = [some (.ref Pa), some (.ref c), some (.ref cl), some (.ref pl), some (.int (startOf F ce)), some (.ref a), some (.int width), some (.int ce), some (.int wide), some (.str (S (sideT left))), some (.ref hd), e11, e12, some (.ref mo), e14] ∧ Sit H6 Pa c cl pl a hd F width ce wide x y left ∧ Pst Pa H H6 ∧ hide [Pa] H6 mo = some (.lst zs) ∧ Reps (hide [Pa] H6) (ps.map stpD) zs) (fun R hR => ?_) ?_
    · refine ⟨6, rfl, by decide, by decide, for_range (lo := 0) (n := ((6 : Int)).toNat) (fun i σ H6 => ∃ e11 e14 : Option V, σ = [some (.ref Pa), some (.ref c), some (.ref cl), some (.ref pl), some (.int (startOf F ce)), some (.ref a), some (.int width), some (.int ce), some (.int wide), some (.str (S (sideT left))), some (.ref hd), e11, e12, some (.ref mo), e14] ∧ Sit H6 Pa c cl pl a hd F width ce wide x y left ∧ Pst Pa H H6 ∧ hide [Pa] H6 mo = some (.lst zs) ∧ Reps (hide [Pa] H6) (ps.map stpD) zs) ?_ ?_ ?_⟩
      · exact ⟨_, _, rfl, hS5, st5, hmo5, hzs5⟩
      · rintro i σ H6 hi ⟨e11', e14, rfl, hS6, st6, hmo6, hzs6⟩
        (try simp only [cx_K, cx_w, rIn, rMulS, CwR.tReplC, tM1, tBM0, rPop, rExtend, rReverse, rLenS, rEqE, rNeE, rSetL, rIntI, rIntB, tBM, rAppend, rIxL, rIxT, rCat, rSlL, rSlS, gTup, tYes, wipe, tSeq, tAsg, tIfS, tRet, tRetN, tDrop, tNext, tBreak, tCont, tNever, tAug, ipI, tPar, tPar3, gName, gCons, gNil, gSub, tVar, tC, tOp, tUn, tIf, tAndV, tOrV, tNotV, tAnd, tOr, tNot, L2.tB, tTest, tCmp, tChain, tCB, tCons, tNil, tCall, tCallS, tTup, tLst, tSl, tPart, tNoPart, rI, rI0, rU, rEq, rNe, scal_ii, scal_ss, scal_bb, scal_nn, scal_is, scal_si, rIxS, S_len, S_cps, S_inj, L2.start, List.map_cons, List.map_nil, List.cons_append, List.nil_append, List.append_nil, List.getElem?_cons_zero, List.getElem?_cons_succ, List.set_cons_zero, List.set_cons_succ, List.length_cons, List.length_nil, Nat.reduceAdd, Nat.reduceSub, List.replicate_succ, List.replicate_zero, Option.some.injEq, V.int.injEq, V.str.injEq, V.bl.injEq, V.ref.injEq, List.cons.injEq, and_true, true_and, exists_eq_left, exists_eq_left', exists_and_left, exists_eq, exists_eq', decide_eq_true_eq, Bool.not_eq_true', decide_eq_false_iff_not, Bool.false_eq_true, if_false, if_true, reduceIte, ite_self, CMul, CPow, CDiv])
        obtain ⟨a', xs, ea, ha, hX⟩ := id hS6.rf
        cases ea
        have hln := hX.len2
        refine ⟨xs, .inl (SqL.of (hide_sub _ _ ha)), Pa, mo, _, ps, zs, rfl, hS6.pool, hmo6, hzs6, hsm, by omega, by omega, fun o v H7 ho st7 hv => ?_⟩
        have hS7 := hS6.mono st7
        refine ⟨_, SqT.of hS7.hpl, _, at_nat (i := 1) rfl, .ref a, F, width, wide, startOf F ce, y, v, o, rfl, hS7.rf.mono hide_sub, hG.2, hv.mono hide_sub, fun H8 s8 => ?_⟩
        refine judge (hS7.same s8) (op := some (.tup [.int x, .int y])) (r_pl (s8 _ _ hS7.hpl)) ((hv.mono hide_sub).mono s8) ho (by rw [place_eq, Bool.true_and]) fun H9 s9 => ⟨_, rfl, ifF (fun z => nomatch z) ?_⟩
        have p9 := st7.same (s8.trans s9)
        exact ⟨_, _, ⟨rfl, rfl⟩, hS6.mono p9, st6.trans p9, p9.kp.hide _ _ hmo6, hzs6.mono p9.kp.hide⟩
      · rintro σ H6 ⟨e11', e14, rfl, hS6, st6, hmo6, hzs6⟩
        exact hR _ _ ⟨_, _, rfl, hS6, st6, hmo6, hzs6⟩
    rintro σ H6 ⟨e11', e14, rfl, hS6, st6, hmo6, hzs6⟩
    (try simp only [cx_K, cx_w, rIn, rMulS, CwR.tReplC, tM1, tBM0, rPop, rExtend, rReverse, rLenS, rEqE, rNeE, rSetL, rIntI, rIntB, tBM, rAppend, rIxL, rIxT, rCat, rSlL, rSlS, gTup, tYes, wipe, tSeq, tAsg, tIfS, tRet, tRetN, tDrop, tNext, tBreak, tCont, tNever, tAug, ipI, tPar, tPar3, gName, gCons, gNil, gSub, tVar, tC, tOp, tUn, tIf, tAndV, tOrV, tNotV, tAnd, tOr, tNot, L2.tB, tTest, tCmp, tChain, tCB, tCons, tNil, tCall, tCallS, tTup, tLst, tSl, tPart, tNoPart, rI, rI0, rU, rEq, rNe, scal_ii, scal_ss, scal_bb, scal_nn, scal_is, scal_si, rIxS, S_len, S_cps, S_inj, L2.start, List.map_cons, List.map_nil, List.cons_append, List.nil_append, List.append_nil, List.getElem?_cons_zero, List.getElem?_cons_succ, List.set_cons_zero, List.set_cons_succ, List.length_cons, List.length_nil, Nat.reduceAdd, Nat.reduceSub, List.replicate_succ, List.replicate_zero, Option.some.injEq, V.int.injEq, V.str.injEq, V.bl.injEq, V.ref.injEq, List.cons.injEq, and_true, true_and, exists_eq_left, exists_eq_left', exists_and_left, exists_eq, exists_eq', decide_eq_true_eq, Bool.not_eq_true', decide_eq_false_iff_not, Bool.false_eq_true, if_false, if_true, reduceIte, ite_self, CMul, CPow, CDiv])
    refine ⟨.ref hd, .ref a, flsD F, rfl, hS6.rh.mono hide_sub, hS6.rf.mono hide_sub, by rw [fls_size]; omega, fun H7 s7 => ⟨_, rfl, ifT rfl ⟨Pa, 3, rfl, (hS6.same s7).pool, by decide, fun k H8 _ _ st8 => ?_⟩⟩⟩
    have hS8 := (hS6.same s7).mono st8
    have st68 := (st6.same s7).trans st8
    exact ⟨Pa, cl, a, F, width, ce, wide, left, rfl, hS8.pool, hS8.hcl, hS8.rf, hfew, hw0, hwd0, fun t vs5 H9 hbad st9 et => ⟨k, t, .ref pl, .ref mo, vs5, rfl, et, hbad, fun H10 s10 => q H10 ((st68.trans st9).same s10)⟩⟩
end
end K92


namespace K92
open PySem PySem.Spec PyProof.Rows L2 KB KG
section
variable {P : Program} {w : World} {K : PySem.W.Frag} {mg : Str → Option Value} {base : Heap} {cP cB : Addr}
theorem CaseIs.up {G G' : Hp} {Pa c : Addr} {F : List Fl} {width ce wide x y : Int} {left : Bool} (s : Same G G') (h : CaseIs G Pa c F width ce wide x y left) : CaseIs G' Pa c F width ce wide x y left := by
  obtain ⟨⟨cl, pl, a, h1, h2, h3, h4⟩, g, f, w0, wd0, r, p, b⟩ := h
  exact ⟨⟨cl, pl, a, s _ _ h1, s _ _ h2, s _ _ h3, h4.mono s.hide⟩, g, f, w0, wd0, r, p, b⟩
def CasesIn (G : Hp) (Pa : Addr) (zs : List V) : Prop := ∀ z ∈ zs, ∃ c F width ce wide x y left, z = .ref c ∧ CaseIs G Pa c F width ce wide x y left
theorem CasesIn.up {G G' : Hp} {Pa : Addr} {zs : List V} (s : Same G G') (h : CasesIn G Pa zs) : CasesIn G' Pa zs := fun z hz => by
  obtain ⟨c, F, width, ce, wide, x, y, left, e, hc⟩ := h z hz
  exact ⟨c, F, width, ce, wide, x, y, left, e, hc.up s⟩
def spLaw (K : PySem.W.Frag) : Sp := fun vs H Q _ => ∃ (a : Addr) (ns : List Int), vs = [V.ref a] ∧ SqL K H a (ns.map V.int) ∧ ns.length ≤ 63 ∧ ∀ H', Q (.bl true) H'
theorem okLawFn {f : Addr} {fd : FuncData} (F : Fun K "law" "law" sLaw f fd) (T : Top K w mg) (XT : ExcTop K mg cP cB) : GFn P w K mg base 9 f fd ["script"] (spLaw K) := by
  have GLawStream : Ok P w K mg base CX0 2 "_law_stream" ["script"] (spStream K) := okStream T
  have GLawCase : Ok P w K mg base CX0 4 "_law_case" ["pool"] spCase := okCase T
  have GLawAsked : GOk P w K mg base 8 "_law_asked" ["pool", "case"] spAsked := okAsked T XT
  have m_range := T.m_range
  refine gfn F scLaw (fun vs H Q E h => ?_) (fun cdv A outer s H vs Q E hgd hr h => ?_)
  · obtain ⟨_, _, rfl, _⟩ := h
    rfl
  · obtain ⟨a, ns, rfl, hS, hlen, q⟩ := h
    refine ⟨_, pss_cons (ps_set (i := 1) scLaw.nd rfl (Or.inr rfl) (pcall GLawStream (hr.mono (by decide)) (by rfl) pass0 (pa_cons (pv 0) pa_nil)))
  (pss_cons (ps_setLc (i := 2) (own := [("k", 4)]) rfl scLaw.nd rfl rfl (sw_true rfl rfl rfl (by decide +kernel)) (pi_range1 rfl m_range (pa_cons (pe_int) pa_nil)) (blkOk_by (own := [("k", 4)]) (N := ["script", "pool", "cases", "case", "k"]) (sc := defScope sLaw) (by decide +kernel)) (fun _ _ _ _ _ => pg_name (i := 4) scLaw.nd rfl (Or.inl rfl)) (fun _ _ _ _ _ => pts_nil) (fun _ _ _ _ _ => pcall GLawCase (hr.mono (by decide)) (by rfl) pass0 (pa_cons (pv 1) pa_nil)))
  (pss_cons (ps_for PassesOwn.never rfl (pi_list (pe_op op_cat (pv 2) (pe_slice sl_list (pv 2) po_none (po_some (pe_int))))) (pg_name (i := 3) scLaw.nd rfl (Or.inl rfl))
  (pss_one (ps_if (pt_not (pt_val (gcall GLawAsked hgd (hr.mono (by decide)) (by rfl) (pa_cons (pv 1) (pa_cons (pv 3) pa_nil)))))
  (pss_one (ps_ret (pe_bl)))
  (pss_nil))))
  (pss_one (ps_ret (pe_bl))))), ?_⟩
    (try simp only [cx_K, cx_w, rIn, rMulS, CwR.tReplC, tM1, tBM0, rPop, rExtend, rReverse, rLenS, rEqE, rNeE, rSetL, rIntI, rIntB, tBM, rAppend, rIxL, rIxT, rCat, rSlL, rSlS, gTup, tYes, wipe, tSeq, tAsg, tIfS, tRet, tRetN, tDrop, tNext, tBreak, tCont, tNever, tAug, ipI, tPar, tPar3, gName, gCons, gNil, gSub, tVar, tC, tOp, tUn, tIf, tAndV, tOrV, tNotV, tAnd, tOr, tNot, L2.tB, tTest, tCmp, tChain, tCB, tCons, tNil, tCall, tCallS, tTup, tLst, tSl, tPart, tNoPart, rI, rI0, rU, rEq, rNe, scal_ii, scal_ss, scal_bb, scal_nn, scal_is, scal_si, rIxS, S_len, S_cps, S_inj, L2.start, List.map_cons, List.map_nil, List.cons_append, List.nil_append, List.append_nil, List.getElem?_cons_zero, List.getElem?_cons_succ, List.set_cons_zero, List.set_cons_succ, List.length_cons, List.length_nil, Nat.reduceAdd, Nat.reduceSub, List.replicate_succ, List.replicate_zero, Option.some.injEq, V.int.injEq, V.str.injEq, V.bl.injEq, V.ref.injEq, List.cons.injEq, and_true, true_and, exists_eq_left, exists_eq_left', exists_and_left, exists_eq, exists_eq', decide_eq_true_eq, Bool.not_eq_true', decide_eq_false_iff_not, Bool.false_eq_true, if_false, if_true, reduceIte, ite_self, CMul, CPow, CDiv])
    refine ⟨a, ns, rfl, hS, hlen, fun Pa H1 s1 hp hP => ?_⟩
    refine ⟨4, rfl, by decide, by decide, fun D hD => lc_range (lo := 0) (n := ((4 : Int)).toNat) (fun i H2 => Pst Pa H1 H2 ∧ ∃ zs, H2 D = some (.lst zs) ∧ CasesIn (hide [Pa, D] H2) Pa zs ∧ zs.length ≤ i) ⟨(Pst.refl hP).new hD, [], upd_same, (fun z h => nomatch h), Nat.zero_le _⟩ (fun i H2 hi hQ => ?_) (fun H2 hQ => ?_)⟩
    · obtain ⟨st2, zs, eD, hz, hl⟩ := hQ
      have hi : i < 4 := hi
      have nD := (Pst.refl hP).ne hD
      refine ⟨rfl, ?_⟩
      (try simp only [cx_K, cx_w, rIn, rMulS, CwR.tReplC, tM1, tBM0, rPop, rExtend, rReverse, rLenS, rEqE, rNeE, rSetL, rIntI, rIntB, tBM, rAppend, rIxL, rIxT, rCat, rSlL, rSlS, gTup, tYes, wipe, tSeq, tAsg, tIfS, tRet, tRetN, tDrop, tNext, tBreak, tCont, tNever, tAug, ipI, tPar, tPar3, gName, gCons, gNil, gSub, tVar, tC, tOp, tUn, tIf, tAndV, tOrV, tNotV, tAnd, tOr, tNot, L2.tB, tTest, tCmp, tChain, tCB, tCons, tNil, tCall, tCallS, tTup, tLst, tSl, tPart, tNoPart, rI, rI0, rU, rEq, rNe, scal_ii, scal_ss, scal_bb, scal_nn, scal_is, scal_si, rIxS, S_len, S_cps, S_inj, L2.start, List.map_cons, List.map_nil, List.cons_append, List.nil_append, List.append_nil, List.getElem?_cons_zero, List.getElem?_cons_succ, List.set_cons_zero, List.set_cons_succ, List.length_cons, List.length_nil, Nat.reduceAdd, Nat.reduceSub, List.replicate_succ, List.replicate_zero, Option.some.injEq, V.int.injEq, V.str.injEq, V.bl.injEq, V.ref.injEq, List.cons.injEq, and_true, true_and, exists_eq_left, exists_eq_left', exists_and_left, exists_eq, exists_eq', decide_eq_true_eq, Bool.not_eq_true', decide_eq_false_iff_not, Bool.false_eq_true, if_false, if_true, reduceIte, ite_self, CMul, CPow, CDiv])
      refine ⟨Pa, rfl, st2.pool, fun c F width ce wide x y left H3 hC st3 => ⟨zs, st3.kp D _ nD eD, sz5' (by omega), (st2.trans st3).mut hD nD, _, upd_same, ?_, by rw [List.length_append, List.length_singleton]; omega⟩⟩
      have m1 : Same (hide [Pa, D] H2) (hide [Pa, D] (upd H3 D (.lst (zs ++ [.ref c])))) := fun b o e => by
        obtain ⟨e1, e2⟩ := hide_some.mp e
        simp at e1
        refine hide_some.mpr ⟨by simp [e1.1, e1.2], ?_⟩
        rw [upd_ne e1.2]
        exact st3.kp b o e1.1 e2
      have m2 : Same (since H2 H3) (hide [Pa, D] (upd H3 D (.lst (zs ++ [.ref c])))) := fun b o e => by
        obtain ⟨e1, e2⟩ := since_some.mp e
        have n1 : b ≠ Pa := fun z => by rw [z] at e1; exact st2.pool.ne e1
        have n2 : b ≠ D := fun z => by rw [z, eD] at e1; cases e1
        refine hide_some.mpr ⟨by simp [n1, n2], ?_⟩
        rw [upd_ne n2]
        exact e2
      intro z hz'
      rcases List.mem_append.mp hz' with h | h
      · exact (hz.up m1) z h
      · rw [List.mem_singleton.mp h]
        exact ⟨c, F, width, ce, wide, x, y, left, rfl, hC.up m2⟩
    · obtain ⟨st2, zs, eD, hz, hl⟩ := hQ
      have hl : zs.length ≤ 4 := hl
      have hz2 := hz.up hide_sub
      refine ⟨_, rfl, _, rfl, 1, rfl, D, zs, rfl, SqL.of eD, fun p3 hp3 => ?_⟩
      have hcl : (cutV zs none (some 1)).length ≤ 4 := Nat.le_trans (by unfold cutV; rw [List.length_take, List.length_drop]; omega) hl
      refine ⟨D, p3, zs, _, rfl, rfl, (Same.new hp3) _ _ eD, upd_same, sz5 (by omega), fun p4 hp4 => ?_⟩
      have st3 := (st2.new (o := .lst (cutV zs none (some 1))) hp3).new (o := .lst (zs ++ cutV zs none (some 1))) hp4
      have n4 := (st2.new (o := .lst (cutV zs none (some 1))) hp3).ne hp4
      have hz3 : CasesIn (upd (upd H2 p3 (.lst (cutV zs none (some 1)))) p4 (.lst (zs ++ cutV zs none (some 1)))) Pa (zs ++ cutV zs none (some 1)) := by
        refine CasesIn.up ((Same.new hp3).trans (Same.new hp4)) fun z h => ?_
        rcases List.mem_append.mp h with h | h
        · exact hz2 z h
        · exact hz2 z (List.mem_of_mem_drop (List.mem_of_mem_take h))
      refine ⟨p4, rfl, ⟨_, SqL.of upd_same⟩, for_list (xs := zs ++ cutV zs none (some 1)) (fun i σ H5 => ∃ e3 : Option V, σ = [some (.ref a), some (.ref Pa), some (.ref D), e3, none] ∧ PoolAt Pa H5 ∧ H5 p4 = some (.lst (zs ++ cutV zs none (some 1))) ∧ CasesIn H5 Pa (zs ++ cutV zs none (some 1))) ?_ ?_ ?_ ?_⟩
      · exact ⟨_, rfl, st3.pool, upd_same, hz3⟩
      · rintro i σ H5 _ ⟨e3, rfl, _, e4, _⟩
        exact SqL.of e4
      · rintro i z σ H5 hx ⟨e3, rfl, hP5, e4, hz5⟩
        obtain ⟨c, F, width, ce, wide, x, y, left, rfl, hC⟩ := hz5 z (List.mem_of_getElem? hx)
        (try simp only [cx_K, cx_w, rIn, rMulS, CwR.tReplC, tM1, tBM0, rPop, rExtend, rReverse, rLenS, rEqE, rNeE, rSetL, rIntI, rIntB, tBM, rAppend, rIxL, rIxT, rCat, rSlL, rSlS, gTup, tYes, wipe, tSeq, tAsg, tIfS, tRet, tRetN, tDrop, tNext, tBreak, tCont, tNever, tAug, ipI, tPar, tPar3, gName, gCons, gNil, gSub, tVar, tC, tOp, tUn, tIf, tAndV, tOrV, tNotV, tAnd, tOr, tNot, L2.tB, tTest, tCmp, tChain, tCB, tCons, tNil, tCall, tCallS, tTup, tLst, tSl, tPart, tNoPart, rI, rI0, rU, rEq, rNe, scal_ii, scal_ss, scal_bb, scal_nn, scal_is, scal_si, rIxS, S_len, S_cps, S_inj, L2.start, List.map_cons, List.map_nil, List.cons_append, List.nil_append, List.append_nil, List.getElem?_cons_zero, List.getElem?_cons_succ, List.set_cons_zero, List.set_cons_succ, List.length_cons, List.length_nil, Nat.reduceAdd, Nat.reduceSub, List.replicate_succ, List.replicate_zero, Option.some.injEq, V.int.injEq, V.str.injEq, V.bl.injEq, V.ref.injEq, List.cons.injEq, and_true, true_and, exists_eq_left, exists_eq_left', exists_and_left, exists_eq, exists_eq', decide_eq_true_eq, Bool.not_eq_true', decide_eq_false_iff_not, Bool.false_eq_true, if_false, if_true, reduceIte, ite_self, CMul, CPow, CDiv])
        refine ⟨Pa, c, F, width, ce, wide, x, y, left, rfl, hP5, hC, fun H6 st6 => ⟨_, rfl, ifF (fun z => nomatch z) ⟨st6.pool, st6.kp p4 _ n4 e4, fun z hz => ?_⟩⟩⟩
        obtain ⟨c', F', w1, w2, w3, w4, w5, w6, e, hC'⟩ := hz5 z hz
        exact ⟨c', F', w1, w2, w3, w4, w5, w6, e, hC'.mono hP5 st6⟩
      · rintro σ H5 ⟨e3, rfl, _, _, _⟩
        (try simp only [cx_K, cx_w, rIn, rMulS, CwR.tReplC, tM1, tBM0, rPop, rExtend, rReverse, rLenS, rEqE, rNeE, rSetL, rIntI, rIntB, tBM, rAppend, rIxL, rIxT, rCat, rSlL, rSlS, gTup, tYes, wipe, tSeq, tAsg, tIfS, tRet, tRetN, tDrop, tNext, tBreak, tCont, tNever, tAug, ipI, tPar, tPar3, gName, gCons, gNil, gSub, tVar, tC, tOp, tUn, tIf, tAndV, tOrV, tNotV, tAnd, tOr, tNot, L2.tB, tTest, tCmp, tChain, tCB, tCons, tNil, tCall, tCallS, tTup, tLst, tSl, tPart, tNoPart, rI, rI0, rU, rEq, rNe, scal_ii, scal_ss, scal_bb, scal_nn, scal_is, scal_si, rIxS, S_len, S_cps, S_inj, L2.start, List.map_cons, List.map_nil, List.cons_append, List.nil_append, List.append_nil, List.getElem?_cons_zero, List.getElem?_cons_succ, List.set_cons_zero, List.set_cons_succ, List.length_cons, List.length_nil, Nat.reduceAdd, Nat.reduceSub, List.replicate_succ, List.replicate_zero, Option.some.injEq, V.int.injEq, V.str.injEq, V.bl.injEq, V.ref.injEq, List.cons.injEq, and_true, true_and, exists_eq_left, exists_eq_left', exists_and_left, exists_eq, exists_eq', decide_eq_true_eq, Bool.not_eq_true', decide_eq_false_iff_not, Bool.false_eq_true, if_false, if_true, reduceIte, ite_self, CMul, CPow, CDiv])
        exact q H5
end
end K92


namespace KG
open PySem PySem.Spec PyProof.Rows L2 KB
/-- where a law's script lies: an object of the written part, or one that is known to the object -/
theorem script_heap {P : Program} {w : World} {K : PySem.W.Frag} {s : Shared} {a : Addr} {vs : List Value} {ns : List Int} (KX : K.In s.heap) (ha : s.heap.get? a = some { cls := .type "list", data := .seq vs.toArray }) (hi : IntsAre vs ns) (hl : ns.length ≤ sizeLine) :
    ∃ H : Hp, Only H ∧ SqL K H a (ns.map V.int) ∧ HOk P w H s.heap ∧ (∀ b, H b ≠ none → b = a ∧ K.lookup a = none) := by
  have rv := vals_ints hi
  have hv := hi.length
  rcases hk : K.lookup a with _ | o
  · have at_a : ∀ {b : Addr} {u : HO}, (if b = a then some (HO.frz { cls := .type "list", data := .seq vs.toArray } (.lst (ns.map V.int))) else none) = some u → b = a ∧ u = HO.frz { cls := .type "list", data := .seq vs.toArray } (.lst (ns.map V.int)) := fun {b u} e => by
      split at e
      · exact ⟨by assumption, (Option.some.inj e).symm⟩
      · cases e
    refine ⟨fun b => if b = a then some (.frz { cls := .type "list", data := .seq vs.toArray } (.lst (ns.map V.int))) else none, fun b => ?_, .inl (.inr ⟨_, if_pos rfl⟩), fun b u e => ?_, fun b n => ?_⟩
    · by_cases e : b = a
      · exact .inr ⟨_, _, if_pos e⟩
      · exact .inl (if_neg e)
    · obtain ⟨rfl, rfl⟩ := at_a e
      exact ⟨ha, by rw [List.length_map]; exact hl, vs, _, rv, ha⟩
    · by_cases e : b = a
      · exact ⟨e, rfl⟩
      · exact absurd (if_neg e) n
  · have e := (KX a o hk).symm.trans ha
    cases e
    refine ⟨fun _ => none, fun _ => .inl rfl, .inr ⟨_, vs.toArray, _, hk, rfl, rfl, rfl, ?_, ?_⟩, fun b u e => ?_, fun b n => absurd rfl n⟩
    · rw [List.size_toArray, hv]
      exact hl
    · rw [List.toList_toArray]
      exact rv
    · have e : (none : Option HO) = some u := e
      cases e
/-- a law's call, by a promise to callers without guards -/
theorem g_law {P : Program} {w : World} {K : PySem.W.Frag} {mg mb : Str → Option Value} {k : Nat} {fa a : Addr} {fd : FuncData} {x : Str} {sp : Sp} {s : Shared} {vs : List Value} {ns : List Int}
    (KX : K.In s.heap) (hns : s.heap.Ns mainGlobals mg) (hb : s.heap.Ns builtinsNs mb) (hbb : ∀ x : Str, x ≠ "__name__" → mb x = bootBuiltins x) (hlim : s.heap.NoLimit) (hg : s.gens = #[])
    (ha : s.heap.get? a = some { cls := .type "list", data := .seq vs.toArray }) (hi : IntsAre vs ns) (hl : ns.length ≤ sizeLine) (hr : Room k callerA)
    (F : ∀ base : Heap, K.In base → base.Ns mainGlobals mg → GFn P w K mg base k fa fd [x] sp) (hbind : ∀ (s : Shared) (u : Value), BindsTo s fd ⟨[u], []⟩ [(x, u)])
    (hsp : ∀ H : Hp, Only H → SqL K H a (ns.map V.int) → sp [.ref a] H (fun v _ => v = .bl true) fun _ _ _ => False) :
    codeAny (model P w) callerA (.call (.ref fa) ⟨[.ref a], []⟩) (fun r s' => r = .ok (.ret (.bool true)) ∧ OldK s.heap s'.heap ∧ s'.os = s.os ∧ AllBare s'.gens) s := by
  obtain ⟨H, hO, hS, hok, hA⟩ := script_heap (P := P) (w := w) KX ha hi hl
  have free : ∀ {b : Addr} {o : Obj}, s.heap.get? b = some o → o.data ≠ .seq vs.toArray → H b = none := fun {b o} e hd => by
    cases hH : H b with
    | none => rfl
    | some u =>
      obtain ⟨rfl, _⟩ := hA b (by rw [hH]; exact fun z => nomatch z)
      rw [ha] at e
      exact absurd (by rw [← Option.some.inj e]) hd
  have ns_of : ∀ {b : Addr} {m : Str → Option Value}, s.heap.Ns b m → (hidT s.heap H).Ns b m := fun {b m} ⟨o, es, ep, e, d, r⟩ => ⟨o, es, ep, hidT_get e (free e (by rw [d]; exact fun z => nomatch z)), d, r⟩
  have inK : K.In (hidT s.heap H) := fun b o e => hidT_get (KX b o e) (by
    cases hH : H b with
    | none => rfl
    | some u =>
      obtain ⟨rfl, hn⟩ := hA b (by rw [hH]; exact fun z => nomatch z)
      rw [hn] at e
      cases e)
  obtain ⟨mc, lim1, lim2⟩ := hlim
  have e0 : Env0 P w K mg (hidT s.heap H) callerA [] s H :=
    ⟨rfl, ⟨inK, ns_of hns, ⟨mb, ns_of hb, hbb⟩, mc, ns_of lim1, lim2⟩, fun b o e => of_hidT e, Nat.le_of_eq (hidT_size _ _), trivial, fun b hb => absurd (show b ∈ ([] : List Addr) from hb) (by simp), hok, .of_eq hg⟩
  refine codeAny_mono ((F _ inK (ns_of hns)).does callerA [] s H [.ref a] [.ref a] _ _ rfl hr e0 (hbind s (.ref a)) (.cons rfl .nil) (hsp H hO hS)) fun r s' h => ?_
  match r, h with
  | .error e, h => exact h.elim
  | .ok .next, h => exact h.elim
  | .ok .brk, h => exact h.elim
  | .ok .cont, h => exact h.elim
  | .ok (.ret u), ⟨v, H', os, bare, un, hok', ru, q⟩ =>
    have q : v = .bl true := q
    subst q
    have ru : u = Value.bool true := ru
    subst ru
    refine ⟨rfl, OldK.of_keep fun b o e => ?_, os, bare⟩
    rcases hO b with z | ⟨ob, xs, z⟩
    · exact un.keep b o e z (fun m => absurd (show b ∈ ([] : List Addr) from m) (by simp)) (by simp)
    · have e1 := (hok b _ z).1
      have e2 := (hok' b _ (un.frzs b ob _ z)).1
      rw [e] at e1
      rw [e2, Option.some.inj e1]
theorem g_walk {l : PySem.W.OpenLaw} {n k : Nat} {q : Program} {loose : List Str} {XP : (Str → Option Value) → Heap → Prop} {YP : World → Heap → Prop} {d : DefRec} {K : Params → PySem.W.Frag} {sp : World → Sp} {x : Str}
    (hn : l.most = some n) (hn2 : n ≤ sizeLine) (hdf : d.params.defaults = []) (hr : Room k callerA) (hY : ∀ (w : World) (h : Heap), YP w h → (K w.params).In h)
    (F : ∀ (w : World) (mg : Str → Option Value) (fa : Addr) (h : Heap), (K w.params).In h → h.Ns mainGlobals mg → mg d.name = some (.ref fa) →
      ∃ fd : FuncData, (∀ (s : Shared) (u : Value), BindsTo s fd ⟨[u], []⟩ [(x, u)]) ∧ ∀ base : Heap, (K w.params).In base → base.Ns mainGlobals mg → GFn l.prog w (K w.params) mg base k fa fd [x] (sp w))
    (hsp : ∀ (w : World) (H : Hp) (a : Addr) (ns : List Int), ns.length ≤ n → Only H → SqL (K w.params) H a (ns.map V.int) → sp w [.ref a] H (fun v _ => v = .bl true) fun _ _ _ => False) :
    PySem.W.WalkO q loose XP YP l.row.toRowW d [] (fun f vs => PySem.call f vs) := by
  refine Att.attach_call hn hdf fun w s₀ s₁ mg mb fa o pm cd doc a vs ns G Y ho hd hcd hmg hobj hints hlen hg => ?_
  obtain ⟨fd, hb, hF⟩ := F w mg fa _ (hY w _ Y) G.T.g hmg
  exact g_law (hY w _ Y) G.T.g G.T.b G.T.builtins G.T.nolimit hg hobj hints (Nat.le_trans hlen hn2) hr hF hb fun H hO hS => hsp w H a ns hlen hO hS
end KG


namespace K92
open PySem PySem.Spec PyProof.Rows L2 KB KG
set_option maxHeartbeats 0 in
theorem all_mk {l : PySem.W.OpenLaw} {w : World} {K : PySem.W.Frag} {h : Heap} {mg : Str → Option Value} {fa : Addr} (X : K.In h) (G : h.Ns mainGlobals mg) (hfa : mg "law" = some (.ref fa))
    {t_LEFT : Tok} {t_RIGHT : Tok} {f0 : Addr} {od0 an0 : Option Addr} {sl0 : Array (Option Value)} {oc0 kV0 dc0 pm0 cd0 ct0 : Value} {f1 : Addr} {od1 an1 : Option Addr} {sl1 : Array (Option Value)} {oc1 kV1 dc1 pm1 cd1 ct1 : Value} {f2 : Addr} {od2 an2 : Option Addr} {sl2 : Array (Option Value)} {oc2 kV2 dc2 pm2 cd2 ct2 : Value} {f3 : Addr} {od3 an3 : Option Addr} {sl3 : Array (Option Value)} {oc3 kV3 dc3 pm3 cd3 ct3 : Value} {f4 : Addr} {od4 an4 : Option Addr} {sl4 : Array (Option Value)} {oc4 kV4 dc4 pm4 cd4 ct4 : Value} {f5 : Addr} {od5 an5 : Option Addr} {sl5 : Array (Option Value)} {oc5 kV5 dc5 pm5 cd5 ct5 : Value} {f6 : Addr} {od6 an6 : Option Addr} {sl6 : Array (Option Value)} {oc6 kV6 dc6 pm6 cd6 ct6 : Value} {f7 : Addr} {od7 an7 : Option Addr} {sl7 : Array (Option Value)} {oc7 kV7 dc7 pm7 cd7 ct7 : Value} {f8 : Addr} {od8 an8 : Option Addr} {sl8 : Array (Option Value)} {oc8 kV8 dc8 pm8 cd8 ct8 : Value} {f9 : Addr} {od9 an9 : Option Addr} {sl9 : Array (Option Value)} {oc9 kV9 dc9 pm9 cd9 ct9 : Value} {f10 : Addr} {od10 an10 : Option Addr} {sl10 : Array (Option Value)} {oc10 kV10 dc10 pm10 cd10 ct10 : Value} {f11 : Addr} {od11 an11 : Option Addr} {sl11 : Array (Option Value)} {oc11 kV11 dc11 pm11 cd11 ct11 : Value} {f12 : Addr} {od12 an12 : Option Addr} {sl12 : Array (Option Value)} {oc12 kV12 dc12 pm12 cd12 ct12 : Value} {f13 : Addr} {od13 an13 : Option Addr} {sl13 : Array (Option Value)} {oc13 kV13 dc13 pm13 cd13 ct13 : Value} {f14 : Addr} {od14 an14 : Option Addr} {sl14 : Array (Option Value)} {oc14 kV14 dc14 pm14 cd14 ct14 : Value} {f15 : Addr} {od15 an15 : Option Addr} {sl15 : Array (Option Value)} {oc15 kV15 dc15 pm15 cd15 ct15 : Value} {f16 : Addr} {od16 an16 : Option Addr} {sl16 : Array (Option Value)} {oc16 kV16 dc16 pm16 cd16 ct16 : Value} {f17 : Addr} {od17 an17 : Option Addr} {sl17 : Array (Option Value)} {oc17 kV17 dc17 pm17 cd17 ct17 : Value} {f18 : Addr} {od18 an18 : Option Addr} {sl18 : Array (Option Value)} {oc18 kV18 dc18 pm18 cd18 ct18 : Value} {f19 : Addr} {od19 an19 : Option Addr} {sl19 : Array (Option Value)} {oc19 kV19 dc19 pm19 cd19 ct19 : Value} {f20 : Addr} {od20 an20 : Option Addr} {sl20 : Array (Option Value)} {oc20 kV20 dc20 pm20 cd20 ct20 : Value} {f21 : Addr} {od21 an21 : Option Addr} {sl21 : Array (Option Value)} {oc21 kV21 dc21 pm21 cd21 ct21 : Value} {f22 : Addr} {od22 an22 : Option Addr} {sl22 : Array (Option Value)} {oc22 kV22 dc22 pm22 cd22 ct22 : Value} {f23 : Addr} {od23 an23 : Option Addr} {sl23 : Array (Option Value)} {oc23 kV23 dc23 pm23 cd23 ct23 : Value} {f24 : Addr} {od24 an24 : Option Addr} {sl24 : Array (Option Value)} {oc24 kV24 dc24 pm24 cd24 ct24 : Value} {f25 : Addr} {od25 an25 : Option Addr} {sl25 : Array (Option Value)} {oc25 kV25 dc25 pm25 cd25 ct25 : Value} {f26 : Addr} {od26 an26 : Option Addr} {sl26 : Array (Option Value)} {oc26 kV26 dc26 pm26 cd26 ct26 : Value} {f27 : Addr} {od27 an27 : Option Addr} {sl27 : Array (Option Value)} {oc27 kV27 dc27 pm27 cd27 ct27 : Value} {f28 : Addr} {od28 an28 : Option Addr} {sl28 : Array (Option Value)} {oc28 kV28 dc28 pm28 cd28 ct28 : Value} {f29 : Addr} {od29 an29 : Option Addr} {sl29 : Array (Option Value)} {oc29 kV29 dc29 pm29 cd29 ct29 : Value} {f30 : Addr} {od30 an30 : Option Addr} {sl30 : Array (Option Value)} {oc30 kV30 dc30 pm30 cd30 ct30 : Value} {f31 : Addr} {od31 an31 : Option Addr} {sl31 : Array (Option Value)} {oc31 kV31 dc31 pm31 cd31 ct31 : Value} {f32 : Addr} {od32 an32 : Option Addr} {sl32 : Array (Option Value)} {oc32 kV32 dc32 pm32 cd32 ct32 : Value} {f33 : Addr} {od33 an33 : Option Addr} {sl33 : Array (Option Value)} {oc33 kV33 dc33 pm33 cd33 ct33 : Value} {f34 : Addr} {od34 an34 : Option Addr} {sl34 : Array (Option Value)} {oc34 kV34 dc34 pm34 cd34 ct34 : Value} {f35 : Addr} {od35 an35 : Option Addr} {sl35 : Array (Option Value)} {oc35 kV35 dc35 pm35 cd35 ct35 : Value} {f36 : Addr} {od36 an36 : Option Addr} {sl36 : Array (Option Value)} {oc36 kV36 dc36 pm36 cd36 ct36 : Value} {f37 : Addr} {od37 an37 : Option Addr} {sl37 : Array (Option Value)} {oc37 kV37 dc37 pm37 cd37 ct37 : Value} {f38 : Addr} {od38 an38 : Option Addr} {sl38 : Array (Option Value)} {oc38 kV38 dc38 pm38 cd38 ct38 : Value} {f39 : Addr} {od39 an39 : Option Addr} {sl39 : Array (Option Value)} {oc39 kV39 dc39 pm39 cd39 ct39 : Value} {f40 : Addr} {od40 an40 : Option Addr} {sl40 : Array (Option Value)} {oc40 kV40 dc40 pm40 cd40 ct40 : Value} {f41 : Addr} {od41 an41 : Option Addr} {sl41 : Array (Option Value)} {oc41 kV41 dc41 pm41 cd41 ct41 : Value} {f42 : Addr} {od42 an42 : Option Addr} {sl42 : Array (Option Value)} {oc42 kV42 dc42 pm42 cd42 ct42 : Value} {f43 : Addr} {od43 an43 : Option Addr} {sl43 : Array (Option Value)} {oc43 kV43 dc43 pm43 cd43 ct43 : Value} {f44 : Addr} {od44 an44 : Option Addr} {sl44 : Array (Option Value)} {oc44 kV44 dc44 pm44 cd44 ct44 : Value} {f45 : Addr} {od45 an45 : Option Addr} {sl45 : Array (Option Value)} {oc45 kV45 dc45 pm45 cd45 ct45 : Value} {cP : Addr} {cB : Addr}
    (z_len : PySem.W.nsIn K mainGlobals "len" = some none)
    (z_all : PySem.W.nsIn K mainGlobals "all" = some none)
    (z_any : PySem.W.nsIn K mainGlobals "any" = some none)
    (z_int : PySem.W.nsIn K mainGlobals "int" = some none)
    (z_str : PySem.W.nsIn K mainGlobals "str" = some none)
    (z_bool : PySem.W.nsIn K mainGlobals "bool" = some none)
    (z_list : PySem.W.nsIn K mainGlobals "list" = some none)
    (z_tuple : PySem.W.nsIn K mainGlobals "tuple" = some none)
    (z_dict : PySem.W.nsIn K mainGlobals "dict" = some none)
    (z_set : PySem.W.nsIn K mainGlobals "set" = some none)
    (z_range : PySem.W.nsIn K mainGlobals "range" = some none)
    (z_zip : PySem.W.nsIn K mainGlobals "zip" = some none)
    (z_enumerate : PySem.W.nsIn K mainGlobals "enumerate" = some none)
    (z_sorted : PySem.W.nsIn K mainGlobals "sorted" = some none)
    (z_max : PySem.W.nsIn K mainGlobals "max" = some none)
    (z_min : PySem.W.nsIn K mainGlobals "min" = some none)
    (z_repr : PySem.W.nsIn K mainGlobals "repr" = some none)
    (z_isinstance : PySem.W.nsIn K mainGlobals "isinstance" = some none)
    (g_LEFT : PySem.W.nsIn K mainGlobals "LEFT" = some (some (.str "left" t_LEFT)))
    (g_RIGHT : PySem.W.nsIn K mainGlobals "RIGHT" = some (some (.str "right" t_RIGHT)))
    (a0 : PySem.W.nsIn K mainGlobals "is_number" = some (some (.ref f0))) (l0 : K.lookup f0 = some ⟨oc0, od0, .func (PySem.W.fnOf "is_number" "is_number" (defArgs sIsNumber) (defBody sIsNumber) (defScope sIsNumber) .none kV0 dc0 pm0 an0 cd0 ct0), sl0⟩) (c0 : PySem.W.codeIn K cd0 "is_number" = true) (k0 : PySem.W.keepIn K (.ref f0) = true)
    (a1 : PySem.W.nsIn K mainGlobals "is_whole_beside" = some (some (.ref f1))) (l1 : K.lookup f1 = some ⟨oc1, od1, .func (PySem.W.fnOf "is_whole" "is_whole" (defArgs sIsWholeBeside) (defBody sIsWholeBeside) (defScope sIsWholeBeside) .none kV1 dc1 pm1 an1 cd1 ct1), sl1⟩) (c1 : PySem.W.codeIn K cd1 "is_whole" = true) (k1 : PySem.W.keepIn K (.ref f1) = true)
    (a2 : PySem.W.nsIn K mainGlobals "is_count" = some (some (.ref f2))) (l2 : K.lookup f2 = some ⟨oc2, od2, .func (PySem.W.fnOf "is_count" "is_count" (defArgs sIsCount) (defBody sIsCount) (defScope sIsCount) .none kV2 dc2 pm2 an2 cd2 ct2), sl2⟩) (c2 : PySem.W.codeIn K cd2 "is_count" = true) (k2 : PySem.W.keepIn K (.ref f2) = true)
    (a3 : PySem.W.nsIn K mainGlobals "is_float" = some (some (.ref f3))) (l3 : K.lookup f3 = some ⟨oc3, od3, .func (PySem.W.fnOf "is_float" "is_float" (defArgs sIsFloat) (defBody sIsFloat) (defScope sIsFloat) .none kV3 dc3 pm3 an3 cd3 ct3), sl3⟩) (c3 : PySem.W.codeIn K cd3 "is_float" = true) (k3 : PySem.W.keepIn K (.ref f3) = true)
    (a4 : PySem.W.nsIn K mainGlobals "are_floats" = some (some (.ref f4))) (l4 : K.lookup f4 = some ⟨oc4, od4, .func (PySem.W.fnOf "are_floats" "are_floats" (defArgs sAreFloats) (defBody sAreFloats) (defScope sAreFloats) .none kV4 dc4 pm4 an4 cd4 ct4), sl4⟩) (c4 : PySem.W.codeIn K cd4 "are_floats" = true) (k4 : PySem.W.keepIn K (.ref f4) = true)
    (a5 : PySem.W.nsIn K mainGlobals "between" = some (some (.ref f5))) (l5 : K.lookup f5 = some ⟨oc5, od5, .func (PySem.W.fnOf "between" "between" (defArgs sBetween) (defBody sBetween) (defScope sBetween) .none kV5 dc5 pm5 an5 cd5 ct5), sl5⟩) (c5 : PySem.W.codeIn K cd5 "between" = true) (k5 : PySem.W.keepIn K (.ref f5) = true)
    (a6 : PySem.W.nsIn K mainGlobals "goes_in" = some (some (.ref f6))) (l6 : K.lookup f6 = some ⟨oc6, od6, .func (PySem.W.fnOf "goes_in" "goes_in" (defArgs sGoesIn) (defBody sGoesIn) (defScope sGoesIn) .none kV6 dc6 pm6 an6 cd6 ct6), sl6⟩) (c6 : PySem.W.codeIn K cd6 "goes_in" = true) (k6 : PySem.W.keepIn K (.ref f6) = true)
    (a7 : PySem.W.nsIn K mainGlobals "first_row_beside" = some (some (.ref f7))) (l7 : K.lookup f7 = some ⟨oc7, od7, .func (PySem.W.fnOf "first_row" "first_row" (defArgs sFirstRowBeside) (defBody sFirstRowBeside) (defScope sFirstRowBeside) .none kV7 dc7 pm7 an7 cd7 ct7), sl7⟩) (c7 : PySem.W.codeIn K cd7 "first_row" = true) (k7 : PySem.W.keepIn K (.ref f7) = true)
    (a8 : PySem.W.nsIn K mainGlobals "float_place" = some (some (.ref f8))) (l8 : K.lookup f8 = some ⟨oc8, od8, .func (PySem.W.fnOf "float_place" "float_place" (defArgs sFloatPlace) (defBody sFloatPlace) (defScope sFloatPlace) .none kV8 dc8 pm8 an8 cd8 ct8), sl8⟩) (c8 : PySem.W.codeIn K cd8 "float_place" = true) (k8 : PySem.W.keepIn K (.ref f8) = true)
    (a9 : PySem.W.nsIn K mainGlobals "check_room" = some (some (.ref f9))) (l9 : K.lookup f9 = some ⟨oc9, od9, .func (PySem.W.fnOf "check_room" "check_room" (defArgs sCheckRoom) (defBody sCheckRoom) (defScope sCheckRoom) .none kV9 dc9 pm9 an9 cd9 ct9), sl9⟩) (c9 : PySem.W.codeIn K cd9 "check_room" = true) (k9 : PySem.W.keepIn K (.ref f9) = true)
    (a10 : PySem.W.nsIn K mainGlobals "float_at" = some (some (.ref f10))) (l10 : K.lookup f10 = some ⟨oc10, od10, .func (PySem.W.fnOf "float_at" "float_at" (defArgs sFloatAt) (defBody sFloatAt) (defScope sFloatAt) .none kV10 dc10 pm10 an10 cd10 ct10), sl10⟩) (c10 : PySem.W.codeIn K cd10 "float_at" = true) (k10 : PySem.W.keepIn K (.ref f10) = true)
    (a11 : PySem.W.nsIn K mainGlobals "first_row_papers" = some (some (.ref f11))) (l11 : K.lookup f11 = some ⟨oc11, od11, .func (PySem.W.fnOf "first_row" "first_row" (defArgs sFirstRowPapers) (defBody sFirstRowPapers) (defScope sFirstRowPapers) .none kV11 dc11 pm11 an11 cd11 ct11), sl11⟩) (c11 : PySem.W.codeIn K cd11 "first_row" = true) (k11 : PySem.W.keepIn K (.ref f11) = true)
    (a12 : PySem.W.nsIn K mainGlobals "leaves_less" = some (some (.ref f12))) (l12 : K.lookup f12 = some ⟨oc12, od12, .func (PySem.W.fnOf "leaves_less" "leaves_less" (defArgs sLeavesLess) (defBody sLeavesLess) (defScope sLeavesLess) .none kV12 dc12 pm12 an12 cd12 ct12), sl12⟩) (c12 : PySem.W.codeIn K cd12 "leaves_less" = true) (k12 : PySem.W.keepIn K (.ref f12) = true)
    (a13 : PySem.W.nsIn K mainGlobals "tightest" = some (some (.ref f13))) (l13 : K.lookup f13 = some ⟨oc13, od13, .func (PySem.W.fnOf "tightest" "tightest" (defArgs sTightest) (defBody sTightest) (defScope sTightest) .none kV13 dc13 pm13 an13 cd13 ct13), sl13⟩) (c13 : PySem.W.codeIn K cd13 "tightest" = true) (k13 : PySem.W.keepIn K (.ref f13) = true)
    (a14 : PySem.W.nsIn K mainGlobals "float_paper" = some (some (.ref f14))) (l14 : K.lookup f14 = some ⟨oc14, od14, .func (PySem.W.fnOf "float_paper" "float_paper" (defArgs sFloatPaper) (defBody sFloatPaper) (defScope sFloatPaper) .none kV14 dc14 pm14 an14 cd14 ct14), sl14⟩) (c14 : PySem.W.codeIn K cd14 "float_paper" = true) (k14 : PySem.W.keepIn K (.ref f14) = true)
    (a15 : PySem.W.nsIn K mainGlobals "is_whole_papers" = some (some (.ref f15))) (l15 : K.lookup f15 = some ⟨oc15, od15, .func (PySem.W.fnOf "is_whole" "is_whole" (defArgs sIsWholePapers) (defBody sIsWholePapers) (defScope sIsWholePapers) .none kV15 dc15 pm15 an15 cd15 ct15), sl15⟩) (c15 : PySem.W.codeIn K cd15 "is_whole" = true) (k15 : PySem.W.keepIn K (.ref f15) = true)
    (a16 : PySem.W.nsIn K mainGlobals "is_witness" = some (some (.ref f16))) (l16 : K.lookup f16 = some ⟨oc16, od16, .func (PySem.W.fnOf "is_witness" "is_witness" (defArgs sIsWitness) (defBody sIsWitness) (defScope sIsWitness) .none kV16 dc16 pm16 an16 cd16 ct16), sl16⟩) (c16 : PySem.W.codeIn K cd16 "is_witness" = true) (k16 : PySem.W.keepIn K (.ref f16) = true)
    (a17 : PySem.W.nsIn K mainGlobals "is_stretch" = some (some (.ref f17))) (l17 : K.lookup f17 = some ⟨oc17, od17, .func (PySem.W.fnOf "is_stretch" "is_stretch" (defArgs sIsStretch) (defBody sIsStretch) (defScope sIsStretch) .none kV17 dc17 pm17 an17 cd17 ct17), sl17⟩) (c17 : PySem.W.codeIn K cd17 "is_stretch" = true) (k17 : PySem.W.keepIn K (.ref f17) = true)
    (a18 : PySem.W.nsIn K mainGlobals "is_float_paper" = some (some (.ref f18))) (l18 : K.lookup f18 = some ⟨oc18, od18, .func (PySem.W.fnOf "is_float_paper" "is_float_paper" (defArgs sIsFloatPaper) (defBody sIsFloatPaper) (defScope sIsFloatPaper) .none kV18 dc18 pm18 an18 cd18 ct18), sl18⟩) (c18 : PySem.W.codeIn K cd18 "is_float_paper" = true) (k18 : PySem.W.keepIn K (.ref f18) = true)
    (a19 : PySem.W.nsIn K mainGlobals "_law_pool" = some (some (.ref f19))) (l19 : K.lookup f19 = some ⟨oc19, od19, .func (PySem.W.fnOf "_law_pool" "_law_pool" (defArgs sLawPool) (defBody sLawPool) (defScope sLawPool) .none kV19 dc19 pm19 an19 cd19 ct19), sl19⟩) (c19 : PySem.W.codeIn K cd19 "_law_pool" = true) (k19 : PySem.W.keepIn K (.ref f19) = true)
    (a20 : PySem.W.nsIn K mainGlobals "_law_stream" = some (some (.ref f20))) (l20 : K.lookup f20 = some ⟨oc20, od20, .func (PySem.W.fnOf "_law_stream" "_law_stream" (defArgs sLawStream) (defBody sLawStream) (defScope sLawStream) .none kV20 dc20 pm20 an20 cd20 ct20), sl20⟩) (c20 : PySem.W.codeIn K cd20 "_law_stream" = true) (k20 : PySem.W.keepIn K (.ref f20) = true)
    (a21 : PySem.W.nsIn K mainGlobals "_law_pick" = some (some (.ref f21))) (l21 : K.lookup f21 = some ⟨oc21, od21, .func (PySem.W.fnOf "_law_pick" "_law_pick" (defArgs sLawPick) (defBody sLawPick) (defScope sLawPick) .none kV21 dc21 pm21 an21 cd21 ct21), sl21⟩) (c21 : PySem.W.codeIn K cd21 "_law_pick" = true) (k21 : PySem.W.keepIn K (.ref f21) = true)
    (a22 : PySem.W.nsIn K mainGlobals "_law_far" = some (some (.ref f22))) (l22 : K.lookup f22 = some ⟨oc22, od22, .func (PySem.W.fnOf "_law_far" "_law_far" (defArgs sLawFar) (defBody sLawFar) (defScope sLawFar) .none kV22 dc22 pm22 an22 cd22 ct22), sl22⟩) (c22 : PySem.W.codeIn K cd22 "_law_far" = true) (k22 : PySem.W.keepIn K (.ref f22) = true)
    (a23 : PySem.W.nsIn K mainGlobals "_law_same" = some (some (.ref f23))) (l23 : K.lookup f23 = some ⟨oc23, od23, .func (PySem.W.fnOf "_law_same" "_law_same" (defArgs sLawSame) (defBody sLawSame) (defScope sLawSame) .none kV23 dc23 pm23 an23 cd23 ct23), sl23⟩) (c23 : PySem.W.codeIn K cd23 "_law_same" = true) (k23 : PySem.W.keepIn K (.ref f23) = true)
    (a24 : PySem.W.nsIn K mainGlobals "_law_wide" = some (some (.ref f24))) (l24 : K.lookup f24 = some ⟨oc24, od24, .func (PySem.W.fnOf "_law_wide" "_law_wide" (defArgs sLawWide) (defBody sLawWide) (defScope sLawWide) .none kV24 dc24 pm24 an24 cd24 ct24), sl24⟩) (c24 : PySem.W.codeIn K cd24 "_law_wide" = true) (k24 : PySem.W.keepIn K (.ref f24) = true)
    (a25 : PySem.W.nsIn K mainGlobals "_law_floats" = some (some (.ref f25))) (l25 : K.lookup f25 = some ⟨oc25, od25, .func (PySem.W.fnOf "_law_floats" "_law_floats" (defArgs sLawFloats) (defBody sLawFloats) (defScope sLawFloats) .none kV25 dc25 pm25 an25 cd25 ct25), sl25⟩) (c25 : PySem.W.codeIn K cd25 "_law_floats" = true) (k25 : PySem.W.keepIn K (.ref f25) = true)
    (a26 : PySem.W.nsIn K mainGlobals "_law_between" = some (some (.ref f26))) (l26 : K.lookup f26 = some ⟨oc26, od26, .func (PySem.W.fnOf "_law_between" "_law_between" (defArgs sLawBetween) (defBody sLawBetween) (defScope sLawBetween) .none kV26 dc26 pm26 an26 cd26 ct26), sl26⟩) (c26 : PySem.W.codeIn K cd26 "_law_between" = true) (k26 : PySem.W.keepIn K (.ref f26) = true)
    (a27 : PySem.W.nsIn K mainGlobals "_law_start" = some (some (.ref f27))) (l27 : K.lookup f27 = some ⟨oc27, od27, .func (PySem.W.fnOf "_law_start" "_law_start" (defArgs sLawStart) (defBody sLawStart) (defScope sLawStart) .none kV27 dc27 pm27 an27 cd27 ct27), sl27⟩) (c27 : PySem.W.codeIn K cd27 "_law_start" = true) (k27 : PySem.W.keepIn K (.ref f27) = true)
    (a28 : PySem.W.nsIn K mainGlobals "_law_place" = some (some (.ref f28))) (l28 : K.lookup f28 = some ⟨oc28, od28, .func (PySem.W.fnOf "_law_place" "_law_place" (defArgs sLawPlace) (defBody sLawPlace) (defScope sLawPlace) .none kV28 dc28 pm28 an28 cd28 ct28), sl28⟩) (c28 : PySem.W.codeIn K cd28 "_law_place" = true) (k28 : PySem.W.keepIn K (.ref f28) = true)
    (a29 : PySem.W.nsIn K mainGlobals "_law_stretched" = some (some (.ref f29))) (l29 : K.lookup f29 = some ⟨oc29, od29, .func (PySem.W.fnOf "_law_stretched" "_law_stretched" (defArgs sLawStretched) (defBody sLawStretched) (defScope sLawStretched) .none kV29 dc29 pm29 an29 cd29 ct29), sl29⟩) (c29 : PySem.W.codeIn K cd29 "_law_stretched" = true) (k29 : PySem.W.keepIn K (.ref f29) = true)
    (a30 : PySem.W.nsIn K mainGlobals "_law_numbers" = some (some (.ref f30))) (l30 : K.lookup f30 = some ⟨oc30, od30, .func (PySem.W.fnOf "_law_numbers" "_law_numbers" (defArgs sLawNumbers) (defBody sLawNumbers) (defScope sLawNumbers) .none kV30 dc30 pm30 an30 cd30 ct30), sl30⟩) (c30 : PySem.W.codeIn K cd30 "_law_numbers" = true) (k30 : PySem.W.keepIn K (.ref f30) = true)
    (a31 : PySem.W.nsIn K mainGlobals "_law_left_over" = some (some (.ref f31))) (l31 : K.lookup f31 = some ⟨oc31, od31, .func (PySem.W.fnOf "_law_left_over" "_law_left_over" (defArgs sLawLeftOver) (defBody sLawLeftOver) (defScope sLawLeftOver) .none kV31 dc31 pm31 an31 cd31 ct31), sl31⟩) (c31 : PySem.W.codeIn K cd31 "_law_left_over" = true) (k31 : PySem.W.keepIn K (.ref f31) = true)
    (a32 : PySem.W.nsIn K mainGlobals "_law_made" = some (some (.ref f32))) (l32 : K.lookup f32 = some ⟨oc32, od32, .func (PySem.W.fnOf "_law_made" "_law_made" (defArgs sLawMade) (defBody sLawMade) (defScope sLawMade) .none kV32 dc32 pm32 an32 cd32 ct32), sl32⟩) (c32 : PySem.W.codeIn K cd32 "_law_made" = true) (k32 : PySem.W.keepIn K (.ref f32) = true)
    (a33 : PySem.W.nsIn K mainGlobals "_law_whole" = some (some (.ref f33))) (l33 : K.lookup f33 = some ⟨oc33, od33, .func (PySem.W.fnOf "_law_whole" "_law_whole" (defArgs sLawWhole) (defBody sLawWhole) (defScope sLawWhole) .none kV33 dc33 pm33 an33 cd33 ct33), sl33⟩) (c33 : PySem.W.codeIn K cd33 "_law_whole" = true) (k33 : PySem.W.keepIn K (.ref f33) = true)
    (a34 : PySem.W.nsIn K mainGlobals "_law_witness" = some (some (.ref f34))) (l34 : K.lookup f34 = some ⟨oc34, od34, .func (PySem.W.fnOf "_law_witness" "_law_witness" (defArgs sLawWitness) (defBody sLawWitness) (defScope sLawWitness) .none kV34 dc34 pm34 an34 cd34 ct34), sl34⟩) (c34 : PySem.W.codeIn K cd34 "_law_witness" = true) (k34 : PySem.W.keepIn K (.ref f34) = true)
    (a35 : PySem.W.nsIn K mainGlobals "_law_right" = some (some (.ref f35))) (l35 : K.lookup f35 = some ⟨oc35, od35, .func (PySem.W.fnOf "_law_right" "_law_right" (defArgs sLawRight) (defBody sLawRight) (defScope sLawRight) .none kV35 dc35 pm35 an35 cd35 ct35), sl35⟩) (c35 : PySem.W.codeIn K cd35 "_law_right" = true) (k35 : PySem.W.keepIn K (.ref f35) = true)
    (a36 : PySem.W.nsIn K mainGlobals "_law_spoilt_stretch" = some (some (.ref f36))) (l36 : K.lookup f36 = some ⟨oc36, od36, .func (PySem.W.fnOf "_law_spoilt_stretch" "_law_spoilt_stretch" (defArgs sLawSpoiltStretch) (defBody sLawSpoiltStretch) (defScope sLawSpoiltStretch) .none kV36 dc36 pm36 an36 cd36 ct36), sl36⟩) (c36 : PySem.W.codeIn K cd36 "_law_spoilt_stretch" = true) (k36 : PySem.W.keepIn K (.ref f36) = true)
    (a37 : PySem.W.nsIn K mainGlobals "_law_spoilt" = some (some (.ref f37))) (l37 : K.lookup f37 = some ⟨oc37, od37, .func (PySem.W.fnOf "_law_spoilt" "_law_spoilt" (defArgs sLawSpoilt) (defBody sLawSpoilt) (defScope sLawSpoilt) .none kV37 dc37 pm37 an37 cd37 ct37), sl37⟩) (c37 : PySem.W.codeIn K cd37 "_law_spoilt" = true) (k37 : PySem.W.keepIn K (.ref f37) = true)
    (a38 : PySem.W.nsIn K mainGlobals "_law_other_place" = some (some (.ref f38))) (l38 : K.lookup f38 = some ⟨oc38, od38, .func (PySem.W.fnOf "_law_other_place" "_law_other_place" (defArgs sLawOtherPlace) (defBody sLawOtherPlace) (defScope sLawOtherPlace) .none kV38 dc38 pm38 an38 cd38 ct38), sl38⟩) (c38 : PySem.W.codeIn K cd38 "_law_other_place" = true) (k38 : PySem.W.keepIn K (.ref f38) = true)
    (a39 : PySem.W.nsIn K mainGlobals "_law_no_float" = some (some (.ref f39))) (l39 : K.lookup f39 = some ⟨oc39, od39, .func (PySem.W.fnOf "_law_no_float" "_law_no_float" (defArgs sLawNoFloat) (defBody sLawNoFloat) (defScope sLawNoFloat) .none kV39 dc39 pm39 an39 cd39 ct39), sl39⟩) (c39 : PySem.W.codeIn K cd39 "_law_no_float" = true) (k39 : PySem.W.keepIn K (.ref f39) = true)
    (a40 : PySem.W.nsIn K mainGlobals "_law_wrong" = some (some (.ref f40))) (l40 : K.lookup f40 = some ⟨oc40, od40, .func (PySem.W.fnOf "_law_wrong" "_law_wrong" (defArgs sLawWrong) (defBody sLawWrong) (defScope sLawWrong) .none kV40 dc40 pm40 an40 cd40 ct40), sl40⟩) (c40 : PySem.W.codeIn K cd40 "_law_wrong" = true) (k40 : PySem.W.keepIn K (.ref f40) = true)
    (a41 : PySem.W.nsIn K mainGlobals "_law_refused" = some (some (.ref f41))) (l41 : K.lookup f41 = some ⟨oc41, od41, .func (PySem.W.fnOf "_law_refused" "_law_refused" (defArgs sLawRefused) (defBody sLawRefused) (defScope sLawRefused) .none kV41 dc41 pm41 an41 cd41 ct41), sl41⟩) (c41 : PySem.W.codeIn K cd41 "_law_refused" = true) (k41 : PySem.W.keepIn K (.ref f41) = true)
    (a42 : PySem.W.nsIn K mainGlobals "_law_judged" = some (some (.ref f42))) (l42 : K.lookup f42 = some ⟨oc42, od42, .func (PySem.W.fnOf "_law_judged" "_law_judged" (defArgs sLawJudged) (defBody sLawJudged) (defScope sLawJudged) .none kV42 dc42 pm42 an42 cd42 ct42), sl42⟩) (c42 : PySem.W.codeIn K cd42 "_law_judged" = true) (k42 : PySem.W.keepIn K (.ref f42) = true)
    (a43 : PySem.W.nsIn K mainGlobals "_law_case" = some (some (.ref f43))) (l43 : K.lookup f43 = some ⟨oc43, od43, .func (PySem.W.fnOf "_law_case" "_law_case" (defArgs sLawCase) (defBody sLawCase) (defScope sLawCase) .none kV43 dc43 pm43 an43 cd43 ct43), sl43⟩) (c43 : PySem.W.codeIn K cd43 "_law_case" = true) (k43 : PySem.W.keepIn K (.ref f43) = true)
    (a44 : PySem.W.nsIn K mainGlobals "_law_asked" = some (some (.ref f44))) (l44 : K.lookup f44 = some ⟨oc44, od44, .func (PySem.W.fnOf "_law_asked" "_law_asked" (defArgs sLawAsked) (defBody sLawAsked) (defScope sLawAsked) .none kV44 dc44 pm44 an44 cd44 ct44), sl44⟩) (c44 : PySem.W.codeIn K cd44 "_law_asked" = true) (k44 : PySem.W.keepIn K (.ref f44) = true)
    (a45 : PySem.W.nsIn K mainGlobals "law" = some (some (.ref f45))) (l45 : K.lookup f45 = some ⟨oc45, od45, .func (PySem.W.fnOf "law" "law" (defArgs sLaw) (defBody sLaw) (defScope sLaw) .none kV45 dc45 pm45 an45 cd45 ct45), sl45⟩) (c45 : PySem.W.codeIn K cd45 "law" = true) (k45 : PySem.W.keepIn K (.ref f45) = true)
    (x_gP : PySem.W.nsIn K mainGlobals "PageError" = some (some (.ref cP)))
    (x_gB : PySem.W.nsIn K mainGlobals "BadList" = some (some (.ref cB)))
    (x_qB : PySem.W.excIn K cB [.type "Exception", .type "BaseException", .type "object"] "Exception.__new__" = true)
    (x_kB : PySem.W.keepIn K (.ref cB) = true)
    (x_sB : PySem.W.subIn K (.ref cB) (.type "BaseException") = some true)
    (x_tB : PySem.W.typeIn K (.ref cB) = some (.type "type"))
    (x_dB : PySem.W.hasDictIn K cB = true)
    (x_uB : PySem.W.subIn K (.ref cB) (.ref cB) = some true) :
    ∃ fd : FuncData, (∀ (s : Shared) (v : Value), BindsTo s fd ⟨[v], []⟩ [("script", v)]) ∧ ∀ base : Heap, K.In base → base.Ns mainGlobals mg → GFn l.prog w K mg base 9 fa fd ["script"] (spLaw K) := by
  have e := hfa.symm.trans (PySem.W.mg_of X G a45)
  cases e
  have T : Top K w mg := {
    m_len := PySem.W.mg_none_of X G z_len,
    m_all := PySem.W.mg_none_of X G z_all,
    m_any := PySem.W.mg_none_of X G z_any,
    m_int := PySem.W.mg_none_of X G z_int,
    m_str := PySem.W.mg_none_of X G z_str,
    m_bool := PySem.W.mg_none_of X G z_bool,
    m_list := PySem.W.mg_none_of X G z_list,
    m_tuple := PySem.W.mg_none_of X G z_tuple,
    m_dict := PySem.W.mg_none_of X G z_dict,
    m_set := PySem.W.mg_none_of X G z_set,
    m_range := PySem.W.mg_none_of X G z_range,
    m_zip := PySem.W.mg_none_of X G z_zip,
    m_enumerate := PySem.W.mg_none_of X G z_enumerate,
    m_sorted := PySem.W.mg_none_of X G z_sorted,
    m_max := PySem.W.mg_none_of X G z_max,
    m_min := PySem.W.mg_none_of X G z_min,
    m_repr := PySem.W.mg_none_of X G z_repr,
    m_isinstance := PySem.W.mg_none_of X G z_isinstance,
    m_LEFT := ⟨_, PySem.W.mg_of X G g_LEFT⟩,
    m_RIGHT := ⟨_, PySem.W.mg_of X G g_RIGHT⟩,
    f_is_number := ⟨_, _, PySem.W.mg_of X G a0, fun_mk (st := sIsNumber) l0 c0 k0, (fun_mk (st := sIsNumber) l0 c0 k0).binds (ps := ["value", "low", "high"]) fun _ _ _ _ _ _ us hl => match us, hl with | [_, _, _], _ => rfl⟩,
    f_is_whole_beside := ⟨_, _, PySem.W.mg_of X G a1, fun_mk (st := sIsWholeBeside) l1 c1 k1, (fun_mk (st := sIsWholeBeside) l1 c1 k1).binds (ps := ["value"]) fun _ _ _ _ _ _ us hl => match us, hl with | [_], _ => rfl⟩,
    f_is_count := ⟨_, _, PySem.W.mg_of X G a2, fun_mk (st := sIsCount) l2 c2 k2, (fun_mk (st := sIsCount) l2 c2 k2).binds (ps := ["value"]) fun _ _ _ _ _ _ us hl => match us, hl with | [_], _ => rfl⟩,
    f_is_float := ⟨_, _, PySem.W.mg_of X G a3, fun_mk (st := sIsFloat) l3 c3 k3, (fun_mk (st := sIsFloat) l3 c3 k3).binds (ps := ["value"]) fun _ _ _ _ _ _ us hl => match us, hl with | [_], _ => rfl⟩,
    f_are_floats := ⟨_, _, PySem.W.mg_of X G a4, fun_mk (st := sAreFloats) l4 c4 k4, (fun_mk (st := sAreFloats) l4 c4 k4).binds (ps := ["value"]) fun _ _ _ _ _ _ us hl => match us, hl with | [_], _ => rfl⟩,
    f_between := ⟨_, _, PySem.W.mg_of X G a5, fun_mk (st := sBetween) l5 c5 k5, (fun_mk (st := sBetween) l5 c5 k5).binds (ps := ["floats", "low", "high", "row"]) fun _ _ _ _ _ _ us hl => match us, hl with | [_, _, _, _], _ => rfl⟩,
    f_goes_in := ⟨_, _, PySem.W.mg_of X G a6, fun_mk (st := sGoesIn) l6 c6 k6, (fun_mk (st := sGoesIn) l6 c6 k6).binds (ps := ["floats", "low", "high", "row", "wide"]) fun _ _ _ _ _ _ us hl => match us, hl with | [_, _, _, _, _], _ => rfl⟩,
    f_first_row_beside := ⟨_, _, PySem.W.mg_of X G a7, fun_mk (st := sFirstRowBeside) l7 c7 k7, (fun_mk (st := sFirstRowBeside) l7 c7 k7).binds (ps := ["floats", "low", "high", "start", "wide"]) fun _ _ _ _ _ _ us hl => match us, hl with | [_, _, _, _, _], _ => rfl⟩,
    f_float_place := ⟨_, _, PySem.W.mg_of X G a8, fun_mk (st := sFloatPlace) l8 c8 k8, (fun_mk (st := sFloatPlace) l8 c8 k8).binds (ps := ["floats", "low", "high", "start", "wide", "side"]) fun _ _ _ _ _ _ us hl => match us, hl with | [_, _, _, _, _, _], _ => rfl⟩,
    f_check_room := ⟨_, _, PySem.W.mg_of X G a9, fun_mk (st := sCheckRoom) l9 c9 k9, (fun_mk (st := sCheckRoom) l9 c9 k9).binds (ps := ["floats", "width", "row"]) fun _ _ _ _ _ _ us hl => match us, hl with | [_, _, _], _ => rfl⟩,
    f_float_at := ⟨_, _, PySem.W.mg_of X G a10, fun_mk (st := sFloatAt) l10 c10 k10, (fun_mk (st := sFloatAt) l10 c10 k10).binds (ps := ["floats", "width", "ceiling", "w", "side"]) fun _ _ _ _ _ _ us hl => match us, hl with | [_, _, _, _, _], _ => rfl⟩,
    f_first_row_papers := ⟨_, _, PySem.W.mg_of X G a11, fun_mk (st := sFirstRowPapers) l11 c11 k11, (fun_mk (st := sFirstRowPapers) l11 c11 k11).binds (ps := ["floats", "ceiling"]) fun _ _ _ _ _ _ us hl => match us, hl with | [_, _], _ => rfl⟩,
    f_leaves_less := ⟨_, _, PySem.W.mg_of X G a12, fun_mk (st := sLeavesLess) l12 c12 k12, (fun_mk (st := sLeavesLess) l12 c12 k12).binds (ps := ["one", "width"]) fun _ _ _ _ _ _ us hl => match us, hl with | [_, _], _ => rfl⟩,
    f_tightest := ⟨_, _, PySem.W.mg_of X G a13, fun_mk (st := sTightest) l13 c13 k13, (fun_mk (st := sTightest) l13 c13 k13).binds (ps := ["floats", "width", "row"]) fun _ _ _ _ _ _ us hl => match us, hl with | [_, _, _], _ => rfl⟩,
    f_float_paper := ⟨_, _, PySem.W.mg_of X G a14, fun_mk (st := sFloatPaper) l14 c14 k14, (fun_mk (st := sFloatPaper) l14 c14 k14).binds (ps := ["floats", "width", "ceiling", "w", "side"]) fun _ _ _ _ _ _ us hl => match us, hl with | [_, _, _, _, _], _ => rfl⟩,
    f_is_whole_papers := ⟨_, _, PySem.W.mg_of X G a15, fun_mk (st := sIsWholePapers) l15 c15 k15, (fun_mk (st := sIsWholePapers) l15 c15 k15).binds (ps := ["value"]) fun _ _ _ _ _ _ us hl => match us, hl with | [_], _ => rfl⟩,
    f_is_witness := ⟨_, _, PySem.W.mg_of X G a16, fun_mk (st := sIsWitness) l16 c16 k16, (fun_mk (st := sIsWitness) l16 c16 k16).binds (ps := ["floats", "width", "value", "side", "row", "stop"]) fun _ _ _ _ _ _ us hl => match us, hl with | [_, _, _, _, _, _], _ => rfl⟩,
    f_is_stretch := ⟨_, _, PySem.W.mg_of X G a17, fun_mk (st := sIsStretch) l17 c17 k17, (fun_mk (st := sIsStretch) l17 c17 k17).binds (ps := ["floats", "width", "w", "value", "row"]) fun _ _ _ _ _ _ us hl => match us, hl with | [_, _, _, _, _], _ => rfl⟩,
    f_is_float_paper := ⟨_, _, PySem.W.mg_of X G a18, fun_mk (st := sIsFloatPaper) l18 c18 k18, (fun_mk (st := sIsFloatPaper) l18 c18 k18).binds (ps := ["floats", "width", "ceiling", "w", "side", "place", "value"]) fun _ _ _ _ _ _ us hl => match us, hl with | [_, _, _, _, _, _, _], _ => rfl⟩,
    f__law_pool := ⟨_, _, PySem.W.mg_of X G a19, fun_mk (st := sLawPool) l19 c19 k19, (fun_mk (st := sLawPool) l19 c19 k19).binds (ps := ["script"]) fun _ _ _ _ _ _ us hl => match us, hl with | [_], _ => rfl⟩,
    f__law_stream := ⟨_, _, PySem.W.mg_of X G a20, fun_mk (st := sLawStream) l20 c20 k20, (fun_mk (st := sLawStream) l20 c20 k20).binds (ps := ["script"]) fun _ _ _ _ _ _ us hl => match us, hl with | [_], _ => rfl⟩,
    f__law_pick := ⟨_, _, PySem.W.mg_of X G a21, fun_mk (st := sLawPick) l21 c21 k21, (fun_mk (st := sLawPick) l21 c21 k21).binds (ps := ["pool", "many"]) fun _ _ _ _ _ _ us hl => match us, hl with | [_, _], _ => rfl⟩,
    f__law_far := ⟨_, _, PySem.W.mg_of X G a22, fun_mk (st := sLawFar) l22 c22 k22, (fun_mk (st := sLawFar) l22 c22 k22).binds (ps := ["pool", "many"]) fun _ _ _ _ _ _ us hl => match us, hl with | [_, _], _ => rfl⟩,
    f__law_same := ⟨_, _, PySem.W.mg_of X G a23, fun_mk (st := sLawSame) l23 c23 k23, (fun_mk (st := sLawSame) l23 c23 k23).binds (ps := ["told", "due"]) fun _ _ _ _ _ _ us hl => match us, hl with | [_, _], _ => rfl⟩,
    f__law_wide := ⟨_, _, PySem.W.mg_of X G a24, fun_mk (st := sLawWide) l24 c24 k24, (fun_mk (st := sLawWide) l24 c24 k24).binds (ps := ["pool"]) fun _ _ _ _ _ _ us hl => match us, hl with | [_], _ => rfl⟩,
    f__law_floats := ⟨_, _, PySem.W.mg_of X G a25, fun_mk (st := sLawFloats) l25 c25 k25, (fun_mk (st := sLawFloats) l25 c25 k25).binds (ps := ["pool", "many", "width"]) fun _ _ _ _ _ _ us hl => match us, hl with | [_, _, _], _ => rfl⟩,
    f__law_between := ⟨_, _, PySem.W.mg_of X G a26, fun_mk (st := sLawBetween) l26 c26 k26, (fun_mk (st := sLawBetween) l26 c26 k26).binds (ps := ["floats", "width", "row"]) fun _ _ _ _ _ _ us hl => match us, hl with | [_, _, _], _ => rfl⟩,
    f__law_start := ⟨_, _, PySem.W.mg_of X G a27, fun_mk (st := sLawStart) l27 c27 k27, (fun_mk (st := sLawStart) l27 c27 k27).binds (ps := ["floats", "ceiling"]) fun _ _ _ _ _ _ us hl => match us, hl with | [_, _], _ => rfl⟩,
    f__law_place := ⟨_, _, PySem.W.mg_of X G a28, fun_mk (st := sLawPlace) l28 c28 k28, (fun_mk (st := sLawPlace) l28 c28 k28).binds (ps := ["floats", "width", "ceiling", "w", "side"]) fun _ _ _ _ _ _ us hl => match us, hl with | [_, _, _, _, _], _ => rfl⟩,
    f__law_stretched := ⟨_, _, PySem.W.mg_of X G a29, fun_mk (st := sLawStretched) l29 c29 k29, (fun_mk (st := sLawStretched) l29 c29 k29).binds (ps := ["floats", "columns", "rows", "moved"]) fun _ _ _ _ _ _ us hl => match us, hl with | [_, _, _, _], _ => rfl⟩,
    f__law_numbers := ⟨_, _, PySem.W.mg_of X G a30, fun_mk (st := sLawNumbers) l30 c30 k30, (fun_mk (st := sLawNumbers) l30 c30 k30).binds (ps := ["floats", "width", "side", "row"]) fun _ _ _ _ _ _ us hl => match us, hl with | [_, _, _, _], _ => rfl⟩,
    f__law_left_over := ⟨_, _, PySem.W.mg_of X G a31, fun_mk (st := sLawLeftOver) l31 c31 k31, (fun_mk (st := sLawLeftOver) l31 c31 k31).binds (ps := ["floats", "width", "i", "j"]) fun _ _ _ _ _ _ us hl => match us, hl with | [_, _, _, _], _ => rfl⟩,
    f__law_made := ⟨_, _, PySem.W.mg_of X G a32, fun_mk (st := sLawMade) l32 c32 k32, (fun_mk (st := sLawMade) l32 c32 k32).binds (ps := ["pool", "floats", "width", "w", "start", "stop"]) fun _ _ _ _ _ _ us hl => match us, hl with | [_, _, _, _, _, _], _ => rfl⟩,
    f__law_whole := ⟨_, _, PySem.W.mg_of X G a33, fun_mk (st := sLawWhole) l33 c33 k33, (fun_mk (st := sLawWhole) l33 c33 k33).binds (ps := ["value"]) fun _ _ _ _ _ _ us hl => match us, hl with | [_], _ => rfl⟩,
    f__law_witness := ⟨_, _, PySem.W.mg_of X G a34, fun_mk (st := sLawWitness) l34 c34 k34, (fun_mk (st := sLawWitness) l34 c34 k34).binds (ps := ["floats", "width", "value", "side", "row", "end"]) fun _ _ _ _ _ _ us hl => match us, hl with | [_, _, _, _, _, _], _ => rfl⟩,
    f__law_right := ⟨_, _, PySem.W.mg_of X G a35, fun_mk (st := sLawRight) l35 c35 k35, (fun_mk (st := sLawRight) l35 c35 k35).binds (ps := ["floats", "width", "w", "start", "stop", "value"]) fun _ _ _ _ _ _ us hl => match us, hl with | [_, _, _, _, _, _], _ => rfl⟩,
    f__law_spoilt_stretch := ⟨_, _, PySem.W.mg_of X G a36, fun_mk (st := sLawSpoiltStretch) l36 c36 k36, (fun_mk (st := sLawSpoiltStretch) l36 c36 k36).binds (ps := ["pool", "stretch", "many"]) fun _ _ _ _ _ _ us hl => match us, hl with | [_, _, _], _ => rfl⟩,
    f__law_spoilt := ⟨_, _, PySem.W.mg_of X G a37, fun_mk (st := sLawSpoilt) l37 c37 k37, (fun_mk (st := sLawSpoilt) l37 c37 k37).binds (ps := ["pool", "paper", "many"]) fun _ _ _ _ _ _ us hl => match us, hl with | [_, _, _], _ => rfl⟩,
    f__law_other_place := ⟨_, _, PySem.W.mg_of X G a38, fun_mk (st := sLawOtherPlace) l38 c38 k38, (fun_mk (st := sLawOtherPlace) l38 c38 k38).binds (ps := ["pool", "place"]) fun _ _ _ _ _ _ us hl => match us, hl with | [_, _], _ => rfl⟩,
    f__law_no_float := ⟨_, _, PySem.W.mg_of X G a39, fun_mk (st := sLawNoFloat) l39 c39 k39, (fun_mk (st := sLawNoFloat) l39 c39 k39).binds (ps := ["pool", "one"]) fun _ _ _ _ _ _ us hl => match us, hl with | [_, _], _ => rfl⟩,
    f__law_wrong := ⟨_, _, PySem.W.mg_of X G a40, fun_mk (st := sLawWrong) l40 c40 k40, (fun_mk (st := sLawWrong) l40 c40 k40).binds (ps := ["pool", "call"]) fun _ _ _ _ _ _ us hl => match us, hl with | [_, _], _ => rfl⟩,
    f__law_refused := ⟨_, _, PySem.W.mg_of X G a41, fun_mk (st := sLawRefused) l41 c41 k41, (fun_mk (st := sLawRefused) l41 c41 k41).binds (ps := ["which", "call", "place", "paper"]) fun _ _ _ _ _ _ us hl => match us, hl with | [_, _, _, _], _ => rfl⟩,
    f__law_judged := ⟨_, _, PySem.W.mg_of X G a42, fun_mk (st := sLawJudged) l42 c42 k42, (fun_mk (st := sLawJudged) l42 c42 k42).binds (ps := ["case", "place", "value", "due"]) fun _ _ _ _ _ _ us hl => match us, hl with | [_, _, _, _], _ => rfl⟩,
    f__law_case := ⟨_, _, PySem.W.mg_of X G a43, fun_mk (st := sLawCase) l43 c43 k43, (fun_mk (st := sLawCase) l43 c43 k43).binds (ps := ["pool"]) fun _ _ _ _ _ _ us hl => match us, hl with | [_], _ => rfl⟩,
    f__law_asked := ⟨_, _, PySem.W.mg_of X G a44, fun_mk (st := sLawAsked) l44 c44 k44, (fun_mk (st := sLawAsked) l44 c44 k44).binds (ps := ["pool", "case"]) fun _ _ _ _ _ _ us hl => match us, hl with | [_, _], _ => rfl⟩,
    f_law := ⟨_, _, PySem.W.mg_of X G a45, fun_mk (st := sLaw) l45 c45 k45, (fun_mk (st := sLaw) l45 c45 k45).binds (ps := ["script"]) fun _ _ _ _ _ _ us hl => match us, hl with | [_], _ => rfl⟩ }
  have XT : ExcTop K mg cP cB := { gP := PySem.W.mg_of X G x_gP, gB := PySem.W.mg_of X G x_gB, qB := x_qB, kB := x_kB, sB := x_sB, tB := x_tB, mB := PySem.W.exm_ref x_sB x_dB x_tB x_uB }
  exact ⟨PySem.W.fnOf "law" "law" (defArgs sLaw) (defBody sLaw) (defScope sLaw) .none kV45 dc45 pm45 an45 cd45 ct45, fun s v => .of_eq rfl, fun base _ _ => okLawFn (fun_mk (st := sLaw) l45 c45 k45) T XT⟩
end K92
open PySem PySem.W PyProof.Rows
set_option pp.maxSteps 40 in
set_option maxHeartbeats 0 in
theorem PySem.Challenge.cw_pageseen_k92_floats_that_stand_no_higher_holds : PySem.Challenge.rw_pageseen_k92_floats_that_stand_no_higher.Holds := by
  w_on; o_law; k_head; (case hw => w_witness2)
  k_fill
  refine KG.g_walk (l := PySem.Challenge.rw_pageseen_k92_floats_that_stand_no_higher) (n := 63) (k := 9) (x := "script") (sp := fun w => K92.spLaw _) rfl (by decide) rfl ⟨rfl, by decide, by decide⟩ (fun w h Y => PySem.W.kIn_of Y) ?F (fun _ _ a ns hl _ hS => ⟨a, ns, rfl, hS, hl, fun _ => rfl⟩)
  case F =>
    intro w mg fa h KX G hmg
    refine' K92.all_mk KX G hmg ?z_len ?z_all ?z_any ?z_int ?z_str ?z_bool ?z_list ?z_tuple ?z_dict ?z_set ?z_range ?z_zip ?z_enumerate ?z_sorted ?z_max ?z_min ?z_repr ?z_isinstance ?g_LEFT ?g_RIGHT ?a0 ?l0 ?c0 ?k0 ?a1 ?l1 ?c1 ?k1 ?a2 ?l2 ?c2 ?k2 ?a3 ?l3 ?c3 ?k3 ?a4 ?l4 ?c4 ?k4 ?a5 ?l5 ?c5 ?k5 ?a6 ?l6 ?c6 ?k6 ?a7 ?l7 ?c7 ?k7 ?a8 ?l8 ?c8 ?k8 ?a9 ?l9 ?c9 ?k9 ?a10 ?l10 ?c10 ?k10 ?a11 ?l11 ?c11 ?k11 ?a12 ?l12 ?c12 ?k12 ?a13 ?l13 ?c13 ?k13 ?a14 ?l14 ?c14 ?k14 ?a15 ?l15 ?c15 ?k15 ?a16 ?l16 ?c16 ?k16 ?a17 ?l17 ?c17 ?k17 ?a18 ?l18 ?c18 ?k18 ?a19 ?l19 ?c19 ?k19 ?a20 ?l20 ?c20 ?k20 ?a21 ?l21 ?c21 ?k21 ?a22 ?l22 ?c22 ?k22 ?a23 ?l23 ?c23 ?k23 ?a24 ?l24 ?c24 ?k24 ?a25 ?l25 ?c25 ?k25 ?a26 ?l26 ?c26 ?k26 ?a27 ?l27 ?c27 ?k27 ?a28 ?l28 ?c28 ?k28 ?a29 ?l29 ?c29 ?k29 ?a30 ?l30 ?c30 ?k30 ?a31 ?l31 ?c31 ?k31 ?a32 ?l32 ?c32 ?k32 ?a33 ?l33 ?c33 ?k33 ?a34 ?l34 ?c34 ?k34 ?a35 ?l35 ?c35 ?k35 ?a36 ?l36 ?c36 ?k36 ?a37 ?l37 ?c37 ?k37 ?a38 ?l38 ?c38 ?k38 ?a39 ?l39 ?c39 ?k39 ?a40 ?l40 ?c40 ?k40 ?a41 ?l41 ?c41 ?k41 ?a42 ?l42 ?c42 ?k42 ?a43 ?l43 ?c43 ?k43 ?a44 ?l44 ?c44 ?k44 ?a45 ?l45 ?c45 ?k45 ?x_gP ?x_gB ?x_qB ?x_kB ?x_sB ?x_tB ?x_dB ?x_uB
    (case z_len => k_is)
    (case z_all => k_is)
    (case z_any => k_is)
    (case z_int => k_is)
    (case z_str => k_is)
    (case z_bool => k_is)
    (case z_list => k_is)
    (case z_tuple => k_is)
    (case z_dict => k_is)
    (case z_set => k_is)
    (case z_range => k_is)
    (case z_zip => k_is)
    (case z_enumerate => k_is)
    (case z_sorted => k_is)
    (case z_max => k_is)
    (case z_min => k_is)
    (case z_repr => k_is)
    (case z_isinstance => k_is)
    (case g_LEFT => k_is)
    (case g_RIGHT => k_is)
    (case a0 => k_is)
    (case l0 => k_is)
    (case c0 => k_is)
    (case k0 => k_is)
    (case a1 => k_is)
    (case l1 => k_is)
    (case c1 => k_is)
    (case k1 => k_is)
    (case a2 => k_is)
    (case l2 => k_is)
    (case c2 => k_is)
    (case k2 => k_is)
    (case a3 => k_is)
    (case l3 => k_is)
    (case c3 => k_is)
    (case k3 => k_is)
    (case a4 => k_is)
    (case l4 => k_is)
    (case c4 => k_is)
    (case k4 => k_is)
    (case a5 => k_is)
    (case l5 => k_is)
    (case c5 => k_is)
    (case k5 => k_is)
    (case a6 => k_is)
    (case l6 => k_is)
    (case c6 => k_is)
    (case k6 => k_is)
    (case a7 => k_is)
    (case l7 => k_is)
    (case c7 => k_is)
    (case k7 => k_is)
    (case a8 => k_is)
    (case l8 => k_is)
    (case c8 => k_is)
    (case k8 => k_is)
    (case a9 => k_is)
    (case l9 => k_is)
    (case c9 => k_is)
    (case k9 => k_is)
    (case a10 => k_is)
    (case l10 => k_is)
    (case c10 => k_is)
    (case k10 => k_is)
    (case a11 => k_is)
    (case l11 => k_is)
    (case c11 => k_is)
    (case k11 => k_is)
    (case a12 => k_is)
    (case l12 => k_is)
    (case c12 => k_is)
    (case k12 => k_is)
    (case a13 => k_is)
    (case l13 => k_is)
    (case c13 => k_is)
    (case k13 => k_is)
    (case a14 => k_is)
    (case l14 => k_is)
    (case c14 => k_is)
    (case k14 => k_is)
    (case a15 => k_is)
    (case l15 => k_is)
    (case c15 => k_is)
    (case k15 => k_is)
    (case a16 => k_is)
    (case l16 => k_is)
    (case c16 => k_is)
    (case k16 => k_is)
    (case a17 => k_is)
    (case l17 => k_is)
    (case c17 => k_is)
    (case k17 => k_is)
    (case a18 => k_is)
    (case l18 => k_is)
    (case c18 => k_is)
    (case k18 => k_is)
    (case a19 => k_is)
    (case l19 => k_is)
    (case c19 => k_is)
    (case k19 => k_is)
    (case a20 => k_is)
    (case l20 => k_is)
    (case c20 => k_is)
    (case k20 => k_is)
    (case a21 => k_is)
    (case l21 => k_is)
    (case c21 => k_is)
    (case k21 => k_is)
    (case a22 => k_is)
    (case l22 => k_is)
    (case c22 => k_is)
    (case k22 => k_is)
    (case a23 => k_is)
    (case l23 => k_is)
    (case c23 => k_is)
    (case k23 => k_is)
    (case a24 => k_is)
    (case l24 => k_is)
    (case c24 => k_is)
    (case k24 => k_is)
    (case a25 => k_is)
    (case l25 => k_is)
    (case c25 => k_is)
    (case k25 => k_is)
    (case a26 => k_is)
    (case l26 => k_is)
    (case c26 => k_is)
    (case k26 => k_is)
    (case a27 => k_is)
    (case l27 => k_is)
    (case c27 => k_is)
    (case k27 => k_is)
    (case a28 => k_is)
    (case l28 => k_is)
    (case c28 => k_is)
    (case k28 => k_is)
    (case a29 => k_is)
    (case l29 => k_is)
    (case c29 => k_is)
    (case k29 => k_is)
    (case a30 => k_is)
    (case l30 => k_is)
    (case c30 => k_is)
    (case k30 => k_is)
    (case a31 => k_is)
    (case l31 => k_is)
    (case c31 => k_is)
    (case k31 => k_is)
    (case a32 => k_is)
    (case l32 => k_is)
    (case c32 => k_is)
    (case k32 => k_is)
    (case a33 => k_is)
    (case l33 => k_is)
    (case c33 => k_is)
    (case k33 => k_is)
    (case a34 => k_is)
    (case l34 => k_is)
    (case c34 => k_is)
    (case k34 => k_is)
    (case a35 => k_is)
    (case l35 => k_is)
    (case c35 => k_is)
    (case k35 => k_is)
    (case a36 => k_is)
    (case l36 => k_is)
    (case c36 => k_is)
    (case k36 => k_is)
    (case a37 => k_is)
    (case l37 => k_is)
    (case c37 => k_is)
    (case k37 => k_is)
    (case a38 => k_is)
    (case l38 => k_is)
    (case c38 => k_is)
    (case k38 => k_is)
    (case a39 => k_is)
    (case l39 => k_is)
    (case c39 => k_is)
    (case k39 => k_is)
    (case a40 => k_is)
    (case l40 => k_is)
    (case c40 => k_is)
    (case k40 => k_is)
    (case a41 => k_is)
    (case l41 => k_is)
    (case c41 => k_is)
    (case k41 => k_is)
    (case a42 => k_is)
    (case l42 => k_is)
    (case c42 => k_is)
    (case k42 => k_is)
    (case a43 => k_is)
    (case l43 => k_is)
    (case c43 => k_is)
    (case k43 => k_is)
    (case a44 => k_is)
    (case l44 => k_is)
    (case c44 => k_is)
    (case k44 => k_is)
    (case a45 => k_is)
    (case l45 => k_is)
    (case c45 => k_is)
    (case k45 => k_is)
    (case x_gP => k_is)
    (case x_gB => k_is)
    (case x_qB => k_exc)
    (case x_kB => k_is)
    (case x_sB => k_is)
    (case x_tB => k_is)
    (case x_dB => k_is)
    (case x_uB => k_is)


