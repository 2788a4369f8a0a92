import PyProof.Rows.All
import Wide.All
import OpenK.AllK
import Wide.FinOn
import KE.KStateDown
import Lean
import HandS.ForMost
import HandS.ForExc
import HandS.More
import HandS.Defaults
import HandS.Head0
import HandS.Head1
import HandS.Head2
import HandS.HeadEnd
import HandS.HeadHook1
import HandS.HeadHook2
import HandS.HeadHook4
import HandS.ExcInit
import HandS.ExcIs
import HandS.HotCalls
import HandS.IsInst
import HandS.TryMany
import HandS.Deep
import HandS.Flow
import HandS.Codes
import PySem.Challenge.RW_faultsheaves_k18_refusals_by_class
set_option Elab.async false
set_option linter.all false
set_option maxRecDepth 100000
set_option maxHeartbeats 4000000
namespace FS
open PySem PySem.Spec PyProof.Rows L2

/-! ### a def of the text, told by its name -/
def noFd : FuncData := PySem.W.fnOf "" "" (defArgs (.Pass ⟨0, 0, 0, 0⟩)) [] (defScope (.Pass ⟨0, 0, 0, 0⟩)) .none .none .none .none none .none .none
def fdOf (K : PySem.W.Frag) (p : Str × Option Str) : FuncData :=
  match K.lookup (He.fAd K p) with
  | some ⟨_, _, .func fd, _⟩ => fd
  | _ => noFd
abbrev FD (K : PySem.W.Frag) (p : Str × Option Str) (x q : Str) (st : Stmt) : Prop :=
  FunD K x q (defArgs st) (defBody st) (defScope st) [] [] (He.fAd K p) (fdOf K p)
theorem fd_of {K : PySem.W.Frag} {p : Str × Option Str} {x q : Str} {st : Stmt}
    (h : ∃ fd, FunD K x q (defArgs st) (defBody st) (defScope st) [] [] (He.fAd K p) fd) : FD K p x q st := by
  obtain ⟨fd, F⟩ := h
  have e : fdOf K p = fd := by
    obtain ⟨oc, od, dV, kV, doc, pm, an, cdv, ct, osl, _, lk, _⟩ := F.ex
    unfold fdOf
    rw [lk]
  show FunD _ _ _ _ _ _ _ _ _ (fdOf K p)
  rw [e]
  exact F
/-- a def at the top -/
structure Fx (K : PySem.W.Frag) (mg : Str → Option Value) (x : Str) (st : Stmt) (ps : List Str) : Prop where
  fn : FD K (x, none) x x st
  bi : Binds K (fdOf K (x, none)) ps []
  mg : mg x = some (.ref (He.ga K x))
/-- a method -/
structure Mx (K : PySem.W.Frag) (C m q : Str) (st : Stmt) (ps : List Str) : Prop where
  fn : FD K (C, some m) m q st
  bi : Binds K (fdOf K (C, some m)) ps []
  me : Meth K (He.ga K C) m (He.ma K (He.ga K C) m)

section
variable {P : Program} {w : World} {K : PySem.W.Frag} {mg : Str → Option Value} {base : Heap}
abbrev FO (P : Program) (w : World) (K : PySem.W.Frag) (mg : Str → Option Value) (base : Heap) (k : Nat) (p : Str × Option Str) (ps : List Str) (sp : Sp) : Prop :=
  FnOk P w K mg base CX0 k (He.fAd K p) (fdOf K p) ps sp
/-- a def that lets nothing out -/
theorem ok0 {p : Str × Option Str} {x q : Str} {st : Stmt} {N ps : List Str} {k : Nat} {sp : Sp} (F : FD K p x q st) (S : FnScope N ps (defScope st))
    (len : ∀ vs H Q E, sp vs H Q E → vs.length = ps.length)
    (hb : ∀ (cdv : Value) (A : Around) (outer : List Env) (s : Shared) (H : Hp) (vs : List V) (Q : VK) (E : XK),
      Room k (A.deeper (envOfC q (defScope st) s.heap.objs.size (He.fAd K p) cdv)) → sp vs H Q E →
      ∃ t, PSs (cxOf CX0 P w K mg base N q (defScope st) (He.fAd K p) cdv A outer s H E).nox (defBody st) t ∧ t { nx := fun _ H' => Q .non H', rt := Q } (start N vs) H) :
    FO P w K mg base (k + 1) p ps sp :=
  FunD.ok F S len fun cdv A outer s H vs Q E hr h => by
    obtain ⟨t, d, q⟩ := hb cdv A outer s H vs Q E hr h
    exact ⟨t, d.nox, q⟩
end

/-! ### heaps: all is kept but what stands at p -/
def Keep (p : Addr) (H H' : Hp) : Prop := ∀ b o, b ≠ p → H b = some o → H' b = some o
theorem Keep.refl (p : Addr) (H : Hp) : Keep p H H := fun _ _ _ h => h
theorem Keep.trans {p : Addr} {H H1 H2 : Hp} (a : Keep p H H1) (b : Keep p H1 H2) : Keep p H H2 := fun c o n h => b c o n (a c o n h)
theorem Keep.same {p : Addr} {H H' : Hp} (h : Same H H') : Keep p H H' := fun b o _ e => h b o e
theorem Keep.upd {p : Addr} {H : Hp} {o : HO} : Keep p H (L2.upd H p o) := fun b u n e => by rw [upd_ne n]; exact e
theorem same_new {H : Hp} {p : Addr} {o : HO} (h : H p = none) : Same H (upd H p o) := fun a u e => by
  rw [upd_ne (ne_of_none e h)]
  exact e
theorem Keep.new {p q : Addr} {H H1 : Hp} {o : HO} (k : Keep p H H1) (h : H1 q = none) : Keep p H (L2.upd H1 q o) := k.trans (.same (same_new h))
theorem Keep.sql {K : PySem.W.Frag} {p a : Addr} {H H' : Hp} {xs : List V} (k : Keep p H H') (n : a ≠ p) (h : SqL K H a xs) : SqL K H' a xs := by
  rcases h with (h | ⟨o, h⟩) | h
  · exact .inl (.inl (k _ _ n h))
  · exact .inl (.inr ⟨o, k _ _ n h⟩)
  · exact .inr h
theorem Keep.sqt {K : PySem.W.Frag} {p a : Addr} {H H' : Hp} {xs : List V} (k : Keep p H H') (n : a ≠ p) (h : SqT K H a xs) : SqT K H' a xs := by
  rcases h with (h | ⟨o, h⟩) | h
  · exact .inl (.inl (k _ _ n h))
  · exact .inl (.inr ⟨o, k _ _ n h⟩)
  · exact .inr h

/-! ### a pot: three numbers; n more than it has given so far -/
def PotAt (n : Int) (H : Hp) (p : Addr) : Prop :=
  ∃ a b c : Int, H p = some (.lst [.int a, .int b, .int c]) ∧ 0 ≤ a ∧ 0 ≤ b ∧ b < 2147483647 ∧ 0 ≤ c ∧ c ≤ n
theorem PotAt.mono {n m : Int} {H : Hp} {p : Addr} (h : PotAt n H p) (l : n ≤ m) : PotAt m H p := by
  obtain ⟨a, b, c, e, h1, h2, h3, h4, h5⟩ := h
  exact ⟨a, b, c, e, h1, h2, h3, h4, by omega⟩
theorem PotAt.same {n : Int} {H H' : Hp} {p : Addr} (h : PotAt n H p) (s : Same H H') : PotAt n H' p := by
  obtain ⟨a, b, c, e, h1, h2, h3, h4, h5⟩ := h
  exact ⟨a, b, c, s _ _ e, h1, h2, h3, h4, h5⟩
theorem PotAt.at {n : Int} {H : Hp} {p : Addr} (h : PotAt n H p) : ∃ xs, H p = some (.lst xs) := by
  obtain ⟨a, b, c, e, _⟩ := h
  exact ⟨_, e⟩
theorem PotAt.ne {n : Int} {H : Hp} {p q : Addr} (h : PotAt n H p) (e : H q = none) : q ≠ p := fun z => by
  obtain ⟨xs, e1⟩ := h.at
  rw [z, e1] at e
  cases e
/-- the digit's promise: some number below m -/
def spDigit : Sp := fun vs H Q _ => ∃ (p : Addr) (m n : Int), vs = [.ref p, .int m] ∧ 0 < m ∧ m < 1073741824 ∧ n < 1152921504606846976 ∧ PotAt n H p ∧
  ∀ (H' : Hp) (d : Int), Keep p H H' → PotAt (n + 1) H' p → 0 ≤ d → d < m → Q (.int d) H'
def spPot (K : PySem.W.Frag) : Sp := fun vs H Q _ => ∃ (a : Addr) (ns : List Int) (k : Int), vs = [.ref a, .int k] ∧ SqL K H a (ns.map V.int) ∧ ns.length ≤ 63 ∧ 0 ≤ k ∧ k < 1000 ∧
  ∀ (H' : Hp) (p : Addr), Same H H' → H p = none → PotAt 0 H' p → Q (.ref p) H'
theorem Keep.mut {p q : Addr} {H H1 : Hp} {o : HO} (k : Keep p H H1) (h : H q = none) : Keep p H (L2.upd H1 q o) := fun b u n e => by
  rw [upd_ne (ne_of_none e h)]
  exact k b u n e
theorem Keep.back {p q : Addr} {H H1 : Hp} (k : Keep p H H1) (n : q ≠ p) (h : H1 q = none) : H q = none := by
  cases e : H q with
  | none => rfl
  | some o =>
    rw [k q o n e] at h
    cases h
theorem PotAt.mut {n : Int} {H : Hp} {p q : Addr} {o : HO} (h : PotAt n H p) (ne : q ≠ p) : PotAt n (L2.upd H q o) p := by
  obtain ⟨a, b, c, e, r⟩ := h
  exact ⟨a, b, c, by rw [upd_ne (Ne.symm ne)]; exact e, r⟩
/-- signs of a text: from the blank to the ~, the percent sign left out -/
def Sign (c : Nat) : Prop := 32 ≤ c ∧ c ≤ 126 ∧ c ≠ 37
def Texty (z : Str) : Prop := z.length ≤ 40 ∧ ∀ c ∈ z.cps.toList, Sign c
def spText : Sp := fun vs H Q _ => ∃ (p : Addr) (n : Int), vs = [.ref p] ∧ n < 1000000000000000000 ∧ PotAt n H p ∧
  ∀ (H' : Hp) (z : Str), Keep p H H' → PotAt (n + 100) H' p → Texty z → Q (.str z) H'
end FS

set_option Elab.async false
set_option linter.all false
set_option maxRecDepth 100000
set_option maxHeartbeats 4000000
namespace FS
open PySem PySem.Spec PyProof.Rows L2
theorem upd_old {H : Hp} {a q : Addr} {o v : HO} (hf : H q = none) (h : H a = some v) : upd H q o a = some v := by rw [upd_ne (ne_of_none h hf)]; exact h
theorem upd_far {H : Hp} {a q : Addr} {o v : HO} (n : a ≠ q) (h : H a = some v) : upd H q o a = some v := by rw [upd_ne n]; exact h
/-! ### one step of a reading each -/
section
variable {K : PySem.W.Frag} {σ : L2.St} {H : Hp} {Q : VK} {D : Ends} {i : Nat} {v x y : V} {ta tb tc te : TE} {t u : TS} {tt tu : TT} {g : TG} {TA0 TA1 : TA} {B : Bool → Hp → Prop}
theorem rd_var (h : σ[i]? = some (some v)) (q : Q v H) : tVar i σ H Q := ⟨v, h, q⟩
theorem rd_c (q : Q v H) : tC v σ H Q := q
theorem rd_op {r : R2} (q : ta σ H fun x H1 => tb σ H1 fun y H2 => r x y H2 Q) : tOp r ta tb σ H Q := q
theorem rd_un {r : V → Hp → VK → Prop} (q : ta σ H fun x H1 => r x H1 Q) : tUn r ta σ H Q := q
theorem rd_test (q : te σ H fun x H' => ∃ k, x = .bl k ∧ B k H') : tTest te σ H B := q
theorem rd_b (q : te σ H fun x H' => ∃ k, x = .bl k ∧ B k H') : tB te σ H B := q
theorem rd_and (q : tt σ H fun c H1 => if c = true then tu σ H1 B else B false H1) : tAnd tt tu σ H B := q
theorem rd_or (q : tt σ H fun c H1 => if c = true then B true H1 else tu σ H1 B) : tOr tt tu σ H B := q
theorem rd_not (q : tt σ H fun c H1 => B (!c) H1) : tNot tt σ H B := q
theorem rd_andV (q : ta σ H fun x H1 => ∃ c, x = .bl c ∧ if c = true then tb σ H1 Q else Q (.bl false) H1) : tAndV ta tb σ H Q := q
theorem rd_orV (q : ta σ H fun x H1 => ∃ c, x = .bl c ∧ if c = true then Q (.bl true) H1 else tb σ H1 Q) : tOrV ta tb σ H Q := q
theorem rd_notV (q : ta σ H fun x H1 => ∃ c, x = .bl c ∧ Q (.bl (!c)) H1) : tNotV ta σ H Q := q
theorem rd_if (q : tt σ H fun c H1 => if c = true then ta σ H1 Q else tb σ H1 Q) : tIf tt ta tb σ H Q := q
theorem rd_next (q : D.nx σ H) : tNext D σ H := q
theorem rd_seq (q : t { D with nx := u D } σ H) : tSeq t u D σ H := q
theorem rd_drop (q : te σ H fun _ H1 => D.nx σ H1) : tDrop te D σ H := q
theorem rd_ret (q : te σ H D.rt) : tRet te D σ H := q
theorem rd_retN (q : D.rt .non H) : tRetN D σ H := q
theorem rd_ifs (q : tt σ H fun b H1 => if b = true then t D σ H1 else u D σ H1) : tIfS tt t u D σ H := q
theorem rd_name {G : L2.St → Hp → Prop} (q : G (σ.set i (some v)) H) : gName i v σ H G := q
theorem rd_asg (q : te σ H fun x H1 => g x σ H1 D.nx) : tAsg te g D σ H := q
theorem rd_sub {to ti : TE} {ts : TSet} {G : L2.St → Hp → Prop} (q : to σ H fun o H1 => ti σ H1 fun i H2 => ts o i v H2 fun H3 => G σ H3) : gSub to ti ts v σ H G := q
theorem rd_nil {A : List V → Hp → Prop} (q : A [] H) : tNil σ H A := q
theorem rd_cons {A : List V → Hp → Prop} (q : te σ H fun x H1 => TA0 σ H1 fun xs H2 => A (x :: xs) H2) : tCons te TA0 σ H A := q
theorem rd_tup (q : TA0 σ H fun xs H1 => xs.length ≤ sizeLine ∧ ∀ p, H1 p = none → Q (.ref p) (upd H1 p (.tup xs))) : tTup TA0 σ H Q := q
theorem rd_lst (q : TA0 σ H fun xs H1 => xs.length ≤ sizeLine ∧ ∀ p, H1 p = none → Q (.ref p) (upd H1 p (.lst xs))) : tLst TA0 σ H Q := q
theorem rd_call {sp : Sp} {dvs : List V} {E : XK} (q : TA0 σ H fun vs H1 => sp (vs ++ dvs) H1 Q E) : tCall sp dvs E TA0 σ H Q := q
theorem rd_cb {r : List V → Hp → VK → Prop} (q : TA0 σ H fun vs H1 => r vs H1 Q) : tCB r TA0 σ H Q := q
theorem rd_i0 {g : Int → Int → V} {i j : Int} (q : Q (g i j) H) : rI0 g (.int i) (.int j) H Q := ⟨i, j, rfl, rfl, q⟩
theorem rd_i {C : Int → Int → Prop} {g : Int → Int → V} {i j : Int} (c : C i j) (q : Q (g i j) H) : rI C g (.int i) (.int j) H Q := ⟨i, j, rfl, rfl, c, q⟩
theorem rd_eq (c : scal x y = true) (q : Q (.bl (decide (x = y))) H) : rEq x y H Q := ⟨c, q⟩
theorem rd_ne (c : scal x y = true) (q : Q (.bl (!decide (x = y))) H) : rNe x y H Q := ⟨c, q⟩
theorem rd_bl {b : Bool} (q : B b H) : ∃ k, V.bl b = .bl k ∧ B k H := ⟨b, rfl, q⟩
theorem rd_blI {b : Bool} {P1 P2 : Bool → Prop} (q : if b = true then P1 b else P2 b) : ∃ k, V.bl b = .bl k ∧ (if k = true then P1 k else P2 k) := ⟨b, rfl, q⟩
theorem rd_size {n : Nat} {P : Prop} (h : n ≤ 1000) (q : P) : n ≤ sizeLine ∧ P := ⟨Nat.le_trans h (by decide), q⟩
theorem rd_ixL {p : Addr} {xs : List V} {i : Int} (h : H p = some (.lst xs)) (e : atI xs i = some v) (q : Q v H) : rIx K (.ref p) (.int i) H Q := .inl ⟨p, xs, i, v, rfl, rfl, SqL.of h, e, q⟩
theorem rd_ixT {p : Addr} {xs : List V} {i : Int} (h : H p = some (.tup xs)) (e : atI xs i = some v) (q : Q v H) : rIx K (.ref p) (.int i) H Q := .inr (.inl ⟨p, xs, i, v, rfl, rfl, SqT.of h, e, q⟩)
theorem rd_ixS {z : Str} {i : Int} {c : Nat} (hz : z.length ≤ sizeLine) (e : atI z.cps.toList i = some c) (q : Q (.str ⟨#[c]⟩) H) : rIx K (.str z) (.int i) H Q := .inr (.inr ⟨z, i, c, rfl, rfl, hz, e, q⟩)
theorem rd_setL {p : Addr} {xs : List V} {i : Int} {j : Nat} {G : Hp → Prop} (h : H p = some (.lst xs)) (e : ixN xs.length i = some j) (q : G (upd H p (.lst (xs.set j v)))) : rSetL (.ref p) (.int i) v H G := ⟨p, xs, i, j, rfl, rfl, h, e, q⟩
theorem rd_ixLK {p : Addr} {xs : List V} {i : Int} (h : SqL K H p xs) (e : atI xs i = some v) (q : Q v H) : rIx K (.ref p) (.int i) H Q := .inl ⟨p, xs, i, v, rfl, rfl, h, e, q⟩
theorem rd_ixTK {p : Addr} {xs : List V} {i : Int} (h : SqT K H p xs) (e : atI xs i = some v) (q : Q v H) : rIx K (.ref p) (.int i) H Q := .inr (.inl ⟨p, xs, i, v, rfl, rfl, h, e, q⟩)
theorem atI_map {α : Type} {f : α → V} {xs : List α} {k : Int} (h0 : 0 ≤ k) (h1 : k < (xs.length : Int)) : ∃ a, a ∈ xs ∧ xs[k.toNat]? = some a ∧ atI (xs.map f) k = some (f a) := by
  have hj : k.toNat < xs.length := by omega
  refine ⟨xs[k.toNat], List.getElem_mem hj, List.getElem?_eq_getElem hj, ?_⟩
  have e := atI_nat (xs := xs.map f) (j := k.toNat) (v := f xs[k.toNat]) (by simp [hj])
  rwa [Int.toNat_of_nonneg h0] at e
theorem atI_get {α : Type} {xs : List α} {k : Int} (h0 : 0 ≤ k) (h1 : k < (xs.length : Int)) : ∃ a, a ∈ xs ∧ xs[k.toNat]? = some a ∧ atI xs k = some a := by
  have hj : k.toNat < xs.length := by omega
  refine ⟨xs[k.toNat], List.getElem_mem hj, List.getElem?_eq_getElem hj, ?_⟩
  have e := atI_nat (xs := xs) (j := k.toNat) (v := xs[k.toNat]) (by simp [hj])
  rwa [Int.toNat_of_nonneg h0] at e
/-- [x, y][int(b)] -/
theorem rd_pick2 {p : Addr} {b : Bool} (h : H p = some (.lst [x, y])) (q : ∀ v, (b = false ∧ v = x) ∨ (b = true ∧ v = y) → Q v H) : rIx K (.ref p) (.int (if b = true then 1 else 0)) H Q := by
  cases b with
  | false => exact rd_ixL (i := 0) h rfl (q _ (.inl ⟨rfl, rfl⟩))
  | true => exact rd_ixL (i := 1) h rfl (q _ (.inr ⟨rfl, rfl⟩))
theorem rd_cat {l b : Addr} {xs zs : List V} (h1 : H l = some (.lst xs)) (h2 : H b = some (.lst zs)) (z : xs.length + zs.length ≤ 1000) (q : ∀ p, H p = none → Q (.ref p) (upd H p (.lst (xs ++ zs)))) : rCat (.ref l) (.ref b) H Q :=
  ⟨l, b, xs, zs, rfl, rfl, h1, h2, Nat.le_trans z (by decide), q⟩
theorem rd_append {l : Addr} {xs : List V} (h : H l = some (.lst xs)) (z : xs.length < 10000) (q : Q .non (upd H l (.lst (xs ++ [y])))) : rAppend (.ref l) [y] H Q := ⟨l, xs, y, rfl, rfl, h, Nat.lt_of_lt_of_le z (by decide), q⟩
theorem rd_eqD {d e : PyData} (h1 : Dp K H x d) (h2 : Dp K H y e) (s1 : SeqAt.shaped d = true) (s2 : SeqAt.shaped e = true) (q : Q (.bl (PyData.eqv d e)) H) : rEqD K x y H Q := ⟨d, e, h1, h2, s1, s2, q⟩
theorem rd_neD {d e : PyData} (h1 : Dp K H x d) (h2 : Dp K H y e) (s1 : SeqAt.shaped d = true) (s2 : SeqAt.shaped e = true) (q : Q (.bl (!PyData.eqv d e)) H) : rNeD K x y H Q := ⟨d, e, h1, h2, s1, s2, q⟩
theorem canLayAll_of : ∀ ds : List PyData, (∀ d ∈ ds, d.canLay0 = true) → PyData.canLayAll0 ds = true
  | [], _ => rfl
  | d :: ds, h => by
    show (d.canLay0 && PyData.canLayAll0 ds) = true
    rw [h d (List.mem_cons_self ..), canLayAll_of ds fun x hx => h x (List.mem_cons_of_mem _ hx)]
    rfl
theorem depthAll_of : ∀ (ds : List PyData) (n : Nat), (∀ d ∈ ds, d.depth ≤ n) → PyData.depthAll ds ≤ n
  | [], _, _ => Nat.zero_le _
  | d :: ds, n, h => Nat.max_le.mpr ⟨h d (List.mem_cons_self ..), depthAll_of ds n fun x hx => h x (List.mem_cons_of_mem _ hx)⟩
theorem shaped_list {ds : List PyData} (h1 : ∀ d ∈ ds, d.canLay0 = true) (h2 : ∀ d ∈ ds, d.depth ≤ 63) : SeqAt.shaped (.list ds) = true := by
  unfold SeqAt.shaped
  rw [show (PyData.list ds).canLay0 = true from canLayAll_of ds h1, decide_eq_true (show (PyData.list ds).depth ≤ 64 from Nat.succ_le_succ (depthAll_of ds 63 h2))]
  rfl
theorem dp_bools : ∀ bs : List Bool, DpAll K H (bs.map V.bl) (bs.map PyData.bool)
  | [] => .nil
  | b :: bs => .cons (.bl b) (dp_bools bs)
/-! ### rules whose reading names K (told apart from the context, so that they serve in blocks too) -/
theorem u_ix {X : Cx} (hK : X.K = K) : IxR X (rIx K) := by subst hK; exact ix_seq
theorem u_slL {X : Cx} (hK : X.K = K) : SlR X (rSlL K) := by subst hK; exact sl_list
theorem u_slT {X : Cx} (hK : X.K = K) : SlR X (rSlT K) := by subst hK; exact sl_tup
theorem u_in {X : Cx} (hK : X.K = K) : OpR X (compareOp .In) (rIn K false) := by subst hK; exact op_in_seq
theorem u_notin {X : Cx} (hK : X.K = K) : OpR X (compareOp .NotIn) (rIn K true) := by subst hK; exact op_notIn_seq
theorem u_gstr {X : Cx} {x z : Str} {pos : Pos} (hg : Gl X x) (h : ∃ t, X.mg x = some (.str z t)) (hd : (x == ("__debug__" : Str)) = false := by decide) : PE X (.Name x pos) (tC (.str z)) := by
  obtain ⟨t, h⟩ := h
  exact pe_glob hg h ⟨_, rfl⟩ hd
theorem u_gint {X : Cx} {x : Str} {n : Int} {pos : Pos} (hg : Gl X x) (h : ∃ t, X.mg x = some (.int n t)) (hd : (x == ("__debug__" : Str)) = false := by decide) : PE X (.Name x pos) (tC (.int n)) := by
  obtain ⟨t, h⟩ := h
  exact pe_glob hg h ⟨_, rfl⟩ hd
theorem u_eqD {X : Cx} (hK : X.K = K) (hu : X.A.units + 64 < cLine) : OpR X (compareOp .Eq) (rEqD K) := by subst hK; exact op_eqD hu
theorem u_neD {X : Cx} (hK : X.K = K) (hu : X.A.units + 64 < cLine) : OpR X (compareOp .NotEq) (rNeD K) := by subst hK; exact op_neD hu
theorem u_fld {X : Cx} {e : Expr} {f : Str} {pos : Pos} (hK : X.K = K) (he : PE X e ta) (hb : attributeBase e f X.env (eval e X.env) = eval e X.env) : PE X (.Attribute e f pos) (tFld K ta f) := by subst hK; exact pe_fld he hb
theorem u_gtup {X : Cx} {es : List Expr} {k n : Nat} {t : TGs} {pos : Pos} (hK : X.K = K) (hc : X.calm = true) (h : PGs X es t)
    (hn : (assignEach es X.env).length = n := by rfl) (hst : (assignEach es X.env).findIdx? (·.1) = none := by rfl) : PG X (.Tuple es k pos) (gTup K n t) := by subst hK; exact pg_tup hc h hn hst
theorem u_ilist {X : Cx} {tg l : Expr} {tl : TE} (hK : X.K = K) (hl : PE X l tl) : PI X tg l (iList K tl) := by subst hK; exact pi_list hl
theorem u_ituple {X : Cx} {tg l : Expr} {tl : TE} (hK : X.K = K) (hl : PE X l tl) : PI X tg l (iTup K tl) := by subst hK; exact pi_tup hl
/-! ### named readings of built-ins -/
def uLen (K : PySem.W.Frag) : List V → Hp → VK → Prop := fun xs H Q => ∃ x n, xs = [x] ∧ LenV K x H n ∧ Q (.int (n : Nat)) H
theorem u_len {X : Cx} (hK : X.K = K) : CallR X (.builtin "len") (uLen K) := by subst hK; exact call_len
theorem rd_lenL {p : Addr} {xs : List V} (h : SqL K H p xs) (q : Q (.int (xs.length : Nat)) H) : uLen K [.ref p] H Q := ⟨_, _, rfl, .inl ⟨_, h, rfl⟩, q⟩
theorem rd_lenT {p : Addr} {xs : List V} (h : SqT K H p xs) (q : Q (.int (xs.length : Nat)) H) : uLen K [.ref p] H Q := ⟨_, _, rfl, .inr ⟨_, h, rfl⟩, q⟩
theorem rd_lenS {z : Str} (h : z.length ≤ sizeLine) (q : Q (.int (z.length : Nat)) H) : uLen K [.str z] H Q := ⟨_, _, rfl, ⟨h, rfl⟩, q⟩
def uMax : List V → Hp → VK → Prop := fun xs H Q => ∃ i j, xs = [.int i, .int j] ∧ Q (.int (if j > i then j else i)) H
theorem u_max {X : Cx} (hc : X.calm = true) : CallR X (.builtin "max") uMax := call_max2 hc
theorem rd_max {i j : Int} (q : ∀ m : Int, (m = i ∨ m = j) → i ≤ m → j ≤ m → Q (.int m) H) : uMax [.int i, .int j] H Q := by
  refine ⟨i, j, rfl, ?_⟩
  by_cases h : j > i
  · rw [if_pos h]; exact q j (.inr rfl) (by omega) (by omega)
  · rw [if_neg h]; exact q i (.inl rfl) (by omega) (by omega)
def uMin : List V → Hp → VK → Prop := fun xs H Q => ∃ i j, xs = [.int i, .int j] ∧ Q (.int (if j < i then j else i)) H
theorem u_min {X : Cx} (hc : X.calm = true) : CallR X (.builtin "min") uMin := call_min2 hc
theorem rd_min {i j : Int} (q : ∀ m : Int, (m = i ∨ m = j) → m ≤ i → m ≤ j → Q (.int m) H) : uMin [.int i, .int j] H Q := by
  refine ⟨i, j, rfl, ?_⟩
  by_cases h : j < i
  · rw [if_pos h]; exact q j (.inr rfl) (by omega) (by omega)
  · rw [if_neg h]; exact q i (.inl rfl) (by omega) (by omega)
def uInt : List V → Hp → VK → Prop := fun xs H Q => (∃ i, xs = [.int i] ∧ Q (.int i) H) ∨ ∃ k, xs = [.bl k] ∧ Q (.int (if k then 1 else 0)) H
theorem u_int {X : Cx} : CallR X (.type "int") uInt := call_int1
theorem rd_intB {k : Bool} (q : Q (.int (if k then 1 else 0)) H) : uInt [.bl k] H Q := .inr ⟨k, rfl, q⟩
def uJoin (K : PySem.W.Frag) : V → List V → Hp → VK → Prop := fun x xs H Q => ∃ a p, ∃ ys : List Str, x = .str a ∧ xs = [.ref p] ∧ (SqL K H p (ys.map V.str) ∨ SqT K H p (ys.map V.str)) ∧
  (ys.map (·.length)).sum + ys.length * a.length ≤ 16777216 ∧ Q (.str (Txt.join a ys)) H
theorem u_join {X : Cx} {o e : Expr} {to te : TE} {apos pos : Pos} (hK : X.K = K) (ho : PE X o to) (he : PE X e te) (hs : starEach [e] X.env = [(false, eval e X.env)] := by rfl) (hbase : attributeBase o "join" X.env (eval o X.env) = eval o X.env := by rfl)
    (hline : (apos.endLine == pos.line) = true := by rfl) : PE X (.Call (.Attribute o "join" apos) [e] [] pos) (tM1 (uJoin K) to te) := by subst hK; exact pe_join ho he hs hbase hline
theorem rd_m1 {r : V → List V → Hp → VK → Prop} {to : TE} (q : to σ H fun x H1 => (∃ a, x = .str a) ∧ te σ H1 fun y H2 => r x [y] H2 Q) : tM1 r to te σ H Q := q
theorem rd_str {z : Str} {P : Prop} (q : P) : (∃ a, V.str z = .str a) ∧ P := ⟨⟨z, rfl⟩, q⟩
theorem rd_join {a : Str} {p : Addr} {ys : List Str} (h : H p = some (.lst (ys.map V.str))) (z : (ys.map (·.length)).sum + ys.length * a.length ≤ 16777216) (q : Q (.str (Txt.join a ys)) H) : uJoin K (.str a) [.ref p] H Q :=
  ⟨a, p, ys, rfl, rfl, .inl (SqL.of h), z, q⟩
/-! ### loops -/
def LcJ (g : TG) (tt : TT) (te : TE) (vs : List Nat) (σ : L2.St) (Q : VK) (J : It) (H1 : Hp) : Prop := ∀ D, H1 D = none → ∃ W : Nat → Nat → Hp → Prop, (∃ m, W 0 m (upd H1 D (.lst []))) ∧ ∀ i m H, W i m H →
    (J.stop i H ∧ Q (.ref D) H) ∨ (J.go i H ∧ ∃ Nx : Hp → Prop, (∀ H', Nx H' → ∃ m', m' < m ∧ W (i + 1) m' H') ∧ ∀ x H', J.yld i H x H' → g x (wipe σ vs) H' fun σ2 H2 => wipe σ2 vs = wipe σ vs ∧ tt σ2 H2 fun b H3 =>
      if b = true then te σ2 H3 fun y H4 => ∃ acc, H4 D = some (.lst acc) ∧ acc.length < sizeLine ∧ Nx (upd H4 D (.lst (acc ++ [y]))) else Nx H3)
theorem rd_lc {wi : TI} {vs : List Nat} (q : wi σ H fun J H1 => LcJ g tt te vs σ Q J H1) : tLc wi g tt te vs σ H Q := q
def ForJ (g : TG) (t : TS) (D : Ends) (σ : L2.St) (J : It) (H1 : Hp) : Prop := ∃ W : Nat → Nat → L2.St → Hp → Prop, (∃ m, W 0 m σ H1) ∧ ∀ i m σ H, W i m σ H →
    (J.stop i H ∧ D.nx σ H) ∨ (J.go i H ∧ ∃ N : L2.St → Hp → Prop, (∀ σ' H', N σ' H' → ∃ m', m' < m ∧ W (i + 1) m' σ' H') ∧ ∀ x H', J.yld i H x H' → g x σ H' fun σ2 H2 => t { D with nx := N, ct := N, bk := D.nx } σ2 H2)
theorem rd_for {wi : TI} (q : wi σ H fun J H1 => ForJ g t D σ J H1) : tFor wi g t D σ H := q
theorem for_R {lo : Int} {n : Nat} (Pv : Nat → L2.St → Hp → Prop) (h0 : Pv 0 σ H)
    (hs : ∀ (i : Nat) σ H, i < n → Pv i σ H → g (.int (lo + i)) σ H fun σ2 H2 => t { D with nx := Pv (i + 1), ct := Pv (i + 1), bk := D.nx } σ2 H2) (hd : ∀ σ H, Pv n σ H → D.nx σ H) : ForJ g t D σ (Itr lo n) H := for_range Pv h0 hs hd
theorem for_L {a : Addr} {xs : List V} (Pv : Nat → L2.St → Hp → Prop) (h0 : Pv 0 σ H) (hl : ∀ i σ H, i ≤ xs.length → Pv i σ H → SqL K H a xs)
    (hs : ∀ (i : Nat) x σ H, xs[i]? = some x → Pv i σ H → g x σ H fun σ2 H2 => t { D with nx := Pv (i + 1), ct := Pv (i + 1), bk := D.nx } σ2 H2) (hd : ∀ σ H, Pv xs.length σ H → D.nx σ H) : ForJ g t D σ (Itl K a) H := for_list Pv h0 hl hs hd
theorem lc_R {lo : Int} {n : Nat} {vs : List Nat} (Pv : Addr → Nat → Hp → Prop) (h0 : ∀ D, H D = none → Pv D 0 (upd H D (.lst [])))
    (hs : ∀ D (i : Nat) G, H D = none → i < n → Pv D i G → g (.int (lo + i)) (wipe σ vs) G fun σ2 H2 => wipe σ2 vs = wipe σ vs ∧ tt σ2 H2 fun b H3 =>
      if b = true then te σ2 H3 fun y H4 => ∃ acc, H4 D = some (.lst acc) ∧ acc.length < sizeLine ∧ Pv D (i + 1) (upd H4 D (.lst (acc ++ [y]))) else Pv D (i + 1) H3) (hd : ∀ D G, H D = none → Pv D n G → Q (.ref D) G) :
    LcJ g tt te vs σ Q (Itr lo n) H := fun D hD => lc_range (Pv D) (h0 D hD) (fun i G hi p => hs D i G hD hi p) (fun G p => hd D G hD p)
theorem lc_L {a : Addr} {xs : List V} {vs : List Nat} (Pv : Addr → Nat → Hp → Prop) (h0 : ∀ D, H D = none → Pv D 0 (upd H D (.lst []))) (hl : ∀ D i G, H D = none → i ≤ xs.length → Pv D i G → SqL K G a xs)
    (hs : ∀ D (i : Nat) x G, H D = none → xs[i]? = some x → Pv D i G → g x (wipe σ vs) G fun σ2 H2 => wipe σ2 vs = wipe σ vs ∧ tt σ2 H2 fun b H3 =>
      if b = true then te σ2 H3 fun y H4 => ∃ acc, H4 D = some (.lst acc) ∧ acc.length < sizeLine ∧ Pv D (i + 1) (upd H4 D (.lst (acc ++ [y]))) else Pv D (i + 1) H3) (hd : ∀ D G, H D = none → Pv D xs.length G → Q (.ref D) G) :
    LcJ g tt te vs σ Q (Itl K a) H := fun D hD => lc_list (Pv D) (h0 D hD) (fun i G hi p => hl D i G hD hi p) (fun i x G hi p => hs D i x G hD hi p) (fun G p => hd D G hD p)
theorem same_mut {H G : Hp} {D : Addr} {o : HO} (s : Same H G) (h : H D = none) : Same H (upd G D o) := fun b u e => by rw [upd_ne (ne_of_none e h)]; exact s b u e
def Rng1 (vs : List V) (H : Hp) (R : It → Hp → Prop) : Prop := ∃ j : Int, vs = [.int j] ∧ -(2 ^ 62) ≤ j ∧ j < 2 ^ 62 ∧ R (Itr 0 j.toNat) H
def Rng2 (vs : List V) (H : Hp) (R : It → Hp → Prop) : Prop := ∃ i j : Int, vs = [.int i, .int j] ∧ (-(2 ^ 62) ≤ i ∧ i < 2 ^ 62 ∧ -(2 ^ 62) ≤ j ∧ j < 2 ^ 62) ∧ R (Itr i (j - i).toNat) H
def IlJ (K : PySem.W.Frag) (x : V) (H : Hp) (R : It → Hp → Prop) : Prop := ∃ a, x = .ref a ∧ (∃ xs, SqL K H a xs) ∧ R (Itl K a) H
theorem rd_rng1 {R : It → Hp → Prop} (q : TA0 σ H fun vs H1 => Rng1 vs H1 R) : iRng1 TA0 σ H R := q
theorem rd_rng2 {R : It → Hp → Prop} (q : TA0 σ H fun vs H1 => Rng2 vs H1 R) : iRng2 TA0 σ H R := q
theorem rd_rngJ {R : It → Hp → Prop} {j : Int} (h1 : -1000000 ≤ j) (h2 : j ≤ 1000000) (q : R (Itr 0 j.toNat) H) : Rng1 [.int j] H R := ⟨j, rfl, by omega, by omega, q⟩
theorem rd_rngIJ {R : It → Hp → Prop} {i j : Int} (h0 : -1000000 ≤ i) (h3 : i ≤ 1000000) (h1 : -1000000 ≤ j) (h2 : j ≤ 1000000) (q : R (Itr i (j - i).toNat) H) : Rng2 [.int i, .int j] H R :=
  ⟨i, j, rfl, ⟨by omega, by omega, by omega, by omega⟩, q⟩
theorem rd_ilist {R : It → Hp → Prop} (q : te σ H fun x H1 => IlJ K x H1 R) : iList K te σ H R := q
theorem rd_ilistJ {R : It → Hp → Prop} {a : Addr} {xs : List V} (h : SqL K H a xs) (q : R (Itl K a) H) : IlJ K (.ref a) H R := ⟨a, rfl, ⟨xs, h⟩, q⟩
theorem rd_yes (q : B true H) : tYes σ H B := q
theorem rd_then {A B : Prop} (q : A) : if true = true then A else B := by rw [if_pos rfl]; exact q
theorem rd_else {A B : Prop} (q : B) : if false = true then A else B := by rw [if_neg Bool.false_ne_true]; exact q
theorem rd_thenN {A B : Prop} (q : A) : if (!false) = true then A else B := by rw [if_pos (by decide)]; exact q
theorem rd_elseN {A B : Prop} (q : B) : if (!true) = true then A else B := by rw [if_neg (by decide)]; exact q
/-! ### the pot's words -/
theorem rd_digit {E : XK} {p : Addr} {m n : Int} (h0 : 0 < m) (h1 : m < 1073741824) (h2 : n < 1152921504606846976) (h : PotAt n H p)
    (q : ∀ (H' : Hp) (d : Int), Keep p H H' → PotAt (n + 1) H' p → 0 ≤ d → d < m → Q (.int d) H') : spDigit ([.ref p, .int m] ++ []) H Q E := ⟨p, m, n, rfl, h0, h1, h2, h, q⟩
theorem join_signs : ∀ cs : List Nat, Txt.join (Str.ofString "") (cs.map fun c => (⟨#[c]⟩ : Str)) = ⟨cs.toArray⟩ := by
  intro cs
  have key : ∀ l : List Nat, TL.joinL [] ((l.map fun c => (⟨#[c]⟩ : Str)).map TL.tl) = l := by
    intro l
    induction l with
    | nil => rfl
    | cons a l ih =>
      cases l with
      | nil => rfl
      | cons b l =>
        show TL.tl ⟨#[a]⟩ ++ ([] ++ TL.joinL [] (((b :: l).map fun c => (⟨#[c]⟩ : Str)).map TL.tl)) = a :: b :: l
        rw [ih]
        rfl
  rw [TL.join_eq]
  have e : (Str.join (Str.ofString "") (cs.map fun c => (⟨#[c]⟩ : Str))).cps.toList = cs := by
    have h := TL.tl_join (Str.ofString "") (cs.map fun c => (⟨#[c]⟩ : Str))
    have e0 : TL.tl (Str.ofString "") = [] := by decide +kernel
    rw [e0, key] at h
    exact h
  generalize Str.join (Str.ofString "") (cs.map fun c => (⟨#[c]⟩ : Str)) = z at e
  obtain ⟨⟨l⟩⟩ := z
  have e' : l = cs := e
  rw [e']
end
/-- signs put together one by one: what a comprehension over range(j) of one-sign texts leaves -/
theorem lenSg (cs : List Nat) : ((⟨cs.toArray⟩ : Str)).length = cs.length := by
  show cs.toArray.size = cs.length
  simp
theorem sum_ones (cs : List Nat) : ((cs.map fun c => (⟨#[c]⟩ : Str)).map (·.length)).sum = cs.length := by
  induction cs with
  | nil => rfl
  | cons a l ih =>
    show 1 + ((l.map fun c => (⟨#[c]⟩ : Str)).map (·.length)).sum = l.length + 1
    rw [ih]
    omega
def oneSign (c : Nat) : V := .str ⟨#[c]⟩
theorem rd_joinSigns {K : PySem.W.Frag} {H : Hp} {Q : VK} {p : Addr} {cs : List Nat} (h : H p = some (.lst (cs.map oneSign))) (z : cs.length ≤ 10000) (q : Q (.str ⟨cs.toArray⟩) H) : uJoin K (.str (Str.ofString "")) [.ref p] H Q := by
  refine rd_join (ys := cs.map fun c => (⟨#[c]⟩ : Str)) ?_ ?_ ?_
  · rw [h, List.map_map]
    rfl
  · rw [sum_ones]
    have e : (Str.ofString "").length = 0 := by decide +kernel
    rw [e]
    omega
  · rw [join_signs]
    exact q
/-! ### the row of signs -/
def signs94 : Str := Str.ofString " !\"#$&'()*+,-./0123456789:;<=>?@ABCDEFGHIJKLMNOPQRSTUVWXYZ[\\]^_`abcdefghijklmnopqrstuvwxyz{|}~"
theorem signs94_len : signs94.cps.toList.length = 94 := by decide +kernel
theorem signs94_ok : ∀ c ∈ signs94.cps.toList, Sign c := by
  have h : (signs94.cps.toList.all fun c => decide (32 ≤ c ∧ c ≤ 126 ∧ c ≠ 37)) = true := by decide +kernel
  intro c hc
  exact of_decide_eq_true (p := 32 ≤ c ∧ c ≤ 126 ∧ c ≠ 37) (List.all_eq_true.mp h c hc)
theorem signs94_at {d : Int} (h0 : 0 ≤ d) (h1 : d < 94) : ∃ c, atI signs94.cps.toList d = some c ∧ Sign c := by
  obtain ⟨c, hc, _, e⟩ := atI_get (xs := signs94.cps.toList) h0 (by rw [signs94_len]; exact h1)
  exact ⟨c, e, signs94_ok c hc⟩
end FS

set_option Elab.async false
set_option linter.all false
set_option maxRecDepth 100000
set_option maxHeartbeats 4000000
namespace FS
open PySem PySem.Spec PyProof.Rows L2
theorem u_veinit {X : Cx} {K : PySem.W.Frag} {e : Expr} {es : List Expr} {ta : TA} {p1 p2 pos : Pos} {pl : Sem Bool} (hK : X.K = K) (hg : Gl X "ValueError") (hm : X.mg "ValueError" = none)
    (vV : PySem.W.findCls K (.type "ValueError") (.type "type") "__init__" = some (.val (.builtin "ValueError.__init__"))) (ha : PA X (e :: es) ta)
    (hc : eval (.Call (.Attribute (.Name "ValueError" p1) "__init__" p2) (e :: es) [] pos) X.env = (eval (.Name "ValueError" p1) X.env >>= fun ov => standAt p2.atName >>= fun _ => holding [ov] (getMethod ov "__init__" pl) >>= fun q =>
      callWith pos q.1 q.2 (backTo pos (starEach (e :: es) X.env)) (backToKw pos (keywordEach [] X.env))) := by rfl)
    (he : starEach (e :: es) X.env = (false, eval e X.env) :: starEach es X.env := by rfl) (hpl : (backTo pos (starEach es X.env)).any (·.1) = false := by rfl) :
    PE X (.Call (.Attribute (.Name "ValueError" p1) "__init__" p2) (e :: es) [] pos) (tVeI K ta) := by
  subst hK
  exact pe_veinit hg hm vV ha hc he hpl
def VeI (K : PySem.W.Frag) (vs : List V) (H1 : Hp) (Q : VK) : Prop := ∃ (a C : Addr) (ws : List V), vs = .ref a :: ws ∧ ws.length ≤ 1000 ∧ OexC K C ∧ H1 a = some (exo a C none) ∧ Q .non H1
theorem rd_vei {K : PySem.W.Frag} {ta : TA} {σ : L2.St} {H : Hp} {Q : VK} (q : ta σ H fun vs H1 => VeI K vs H1 Q) : tVeI K ta σ H Q := q
/-! ### an exception of an own class whose __init__ only tells ValueError's -/
def spFInit (K : PySem.W.Frag) : Sp := fun vs H Q _ => ∃ (a C : Addr) (v : V), vs = [.ref a, v] ∧ OexC K C ∧ H a = some (exo a C none) ∧ Q .non H
theorem del_upd {H : Hp} {a : Addr} {o : HO} (h : H a = none) : del (upd H a o) a = H := by
  funext b
  by_cases e : b = a
  · rw [e, del_same, h]
  · rw [del_ne e, upd_ne e]
section
variable {X : Cx}
/-- its end: the exception is let go, nothing else has come -/
theorem mk_bare {pins : List (Addr × Obj)} {σ : L2.St} {H1 : Hp} {Q : XK} {s1 s2 : Shared} {hp2 : Heap} {a C : Addr} (R : Raises X (.ref C)) (I1 : Inv X pins σ H1 s1)
    (ha : s1.heap.objs.size ≤ a) (k : ∀ b o, s1.heap.get? b = some o → hp2.get? b = some o)
    (un : Un (frs X.stack) [] (upd H1 a (exo a C none)) (upd H1 a (exo a C none)) hp2 s2.heap)
    (hok : HOk X.prog X.w (upd H1 a (exo a C none)) s2.heap) (ho : s2.os = s1.os) (hb : AllBare s2.gens) (q : Q (.ref C) none H1) : MkP X pins σ Q (.ref a) s2 := by
  have hn : H1 a = none := I1.hok.fresh ha
  obtain ⟨t0, hoe⟩ := exo_at hok upd_same
  obtain ⟨G, gi, gx⟩ := restrict s2.heap fun b => decide (b ≠ a)
  have same : ∀ b, b ≠ a → G.get? b = s2.heap.get? b := fun b n => gi b (decide_eq_true n)
  have gone : G.get? a = none := gx a (by simp)
  have away : ∀ {b : Addr} {o : Obj}, s1.heap.get? b = some o → b ≠ a := fun {b o} z => Nat.ne_of_lt (Nat.lt_of_lt_of_le (Heap.lt_size z) ha)
  have uu : ∀ {b : Addr}, b ≠ a → upd H1 a (exo a C none) b = H1 b := fun n => upd_ne n
  have U : Un (frs X.stack) [] H1 H1 s1.heap G := {
    keep := fun b o z n hf hx => by
      rw [same b (away z)]
      refine un.keep b o (k b o z) ?_ hf hx
      rw [uu (away z)]; exact n
    slot := fun b o z n hf hx => by
      rw [same b (away z)]
      refine un.slot b o (k b o z) ?_ hf hx
      rw [uu (away z)]; exact n
    free := fun b o z n hx => n
    there := fun b o z hx => by
      rw [same b (away z)]
      exact un.there b o (k b o z) hx
    tups := fun b xs z => z
    frzs := fun b o v z => z
    tbls := fun b ps z => ⟨#[], by rw [Array.append_empty]; exact z⟩ }
  have hok1 : HOk X.prog X.w H1 G := fun b o z => by
    have nba : b ≠ a := ne_of_none z hn
    have own : ∀ {c : Addr}, H1 c = some (.own b) → c ≠ a := fun hc => ne_of_none hc hn
    have z2 : upd H1 a (exo a C none) b = some o := by rw [uu nba]; exact z
    refine (hok b o z2).stay (fun c v hc y => ?_) (fun c hc => ?_) (fun c xs hc => ?_)
    · have nca : c ≠ a := by
        rcases hc with hc | hc
        · rw [hc]; exact nba
        · exact at_ne upd_same hc exo_own
      rw [same c nca]
      exact y
    · have nca : c ≠ a := at_ne upd_same hc exo_own
      rw [uu nca] at hc
      exact hc
    · have nca : c ≠ a := at_ne upd_same hc exo_tup
      rw [uu nca] at hc
      exact hc
  have J : Inv X pins σ H1 ⟨G, s2.gens, s2.drawn, s2.toks, s2.os⟩ := I1.call' (ch := []) ho U hok1 hb (fun b z => absurd z (by simp))
  refine ⟨a, _, _, ⟨G, s2.gens, s2.drawn, s2.toks, s2.os⟩, H1, .ref C, none, rfl, J, fun b o z => ?_, gone, hoe, ⟨rfl, rfl⟩, rfl, rfl, hn, rfl, hb, R, q⟩
  by_cases e : b = a
  · rw [e, gone] at z
    cases z
  · rw [← same b e]
    exact z
/-- C(e), C a class under FaultError -/
def tMkF (C : Addr) (te : TE) : L2.St → Hp → XK → Prop := fun σ H Q => te σ H fun x H1 => (∃ v, [x] = [v]) ∧ Q (.ref C) none H1
theorem pmk_fault {x : Str} {C fI : Addr} {k : Nat} {fd : FuncData} {ps : List Str} {e : Expr} {te : TE} {p pos : Pos} (T : OexC X.K C) (iC : PySem.W.findIn X.K (.ref C) "__init__" = some (some (.ref fI)))
    (tI : PySem.W.typeIn X.K (.ref fI) = some (.type "function")) (F1 : FnOk X.prog X.w X.K X.mg X.base CX0 k fI fd ps (spFInit X.K)) (hr : Room (k + 1) X.A) (hb : Binds X.K fd ps []) (hg : Gl X x) (hm : X.mg x = some (.ref C)) (ha : PE X e te)
    (hdb : (x == ("__debug__" : Str)) = false := by decide) (he : starEach [e] X.env = [(false, eval e X.env)] := by rfl) :
    PMk X (.Call (.Name x p) [e] [] pos) (tMkF C te) := by
  intro pins s σ H Q I h
  obtain ⟨nm, q, N, bs, bm, sn, sub, ab, col, dd, k0, k1, k2, k3, k5, hC, hbm⟩ := T.cls
  have hA : PA X [e] (tCons te tNil) := pa_cons ha pa_nil he
  have h' : tCons te tNil σ H (fun vs H1 => (∃ v, vs = [v]) ∧ Q (.ref C) none H1) := h
  refine wpAny_Call_Name_kw (ld_glob I hg hm ?_ hdb)
  refine PySem.W.callWith_K (h₀ := X.base) I.ok.mod.kin T.kC (thn (hA.run pos pins s σ H _ I h') fun us s1 ⟨vs, H1, I1, r1, ⟨v, ev⟩, q1⟩ => ⟨I1.kIn, ?_⟩) he rfl
  subst ev
  show wpAny _ _ (call (.ref C) us) _ _ _
  obtain ⟨hp, g, dr, tk, os⟩ := s1
  have big : hp.objs.size ≤ hp.objs.size + 1 := Nat.le_succ _
  have fr : H1 (hp.objs.size + 1) = none := I1.hok.fresh big
  have kk : ∀ b o, hp.get? b = some o → ((hp.push (PySem.W.kdv_tup us)).push (PySem.HandSPX.excO C hp.objs.size)).get? b = some o :=
    fun b o e => Heap.get?_push_of_some _ (Heap.get?_push_of_some _ e)
  have gt : ((hp.push (PySem.W.kdv_tup us)).push (PySem.HandSPX.excO C hp.objs.size)).get? (hp.objs.size + 1) = some (PySem.HandSPX.excO C hp.objs.size) := by heap_get
  have I2 : Inv X pins σ (upd H1 (hp.objs.size + 1) (exo (hp.objs.size + 1) C none)) ⟨(hp.push (PySem.W.kdv_tup us)).push (PySem.HandSPX.excO C hp.objs.size), g, dr, tk, os⟩ :=
    I1.laid (t' := tk) kk big (exo_ok gt)
  have r2 : Vals [V.ref (hp.objs.size + 1), v] (Value.ref (hp.objs.size + 1) :: us) := .cons rfl r1
  have sp0 : spFInit X.K [V.ref (hp.objs.size + 1), v] (upd H1 (hp.objs.size + 1) (exo (hp.objs.size + 1) C none))
      (fun w H2 => w = .non ∧ H2 = upd H1 (hp.objs.size + 1) (exo (hp.objs.size + 1) C none)) (fun _ _ _ => False) := ⟨_, C, v, rfl, T, upd_same, rfl, rfl⟩
  have hl : (Value.ref (hp.objs.size + 1) :: us).length = ps.length := by
    rw [← r2.length]
    exact F1.len _ _ _ _ sp0
  have one : us.length ≤ sizeLine := by
    rw [← Paired.length r1]
    exact (by decide : 1 ≤ sizeLine)
  have bb := hb ⟨(hp.push (PySem.W.kdv_tup us)).push (PySem.HandSPX.excO C hp.objs.size), g, dr, tk, os⟩ (Value.ref (hp.objs.size + 1) :: us) I2.kIn (by rw [List.append_nil]; exact hl)
  rw [List.append_nil] at bb
  refine wpAny_call (PySem.HandSPX.call_own F.excBase_ValueError (fun Y => PySem.HandSPX.refsVE_contains Y bm hbm) (I1.kIn _ _ hC) (PySem.W.looks_findIn I1.kIn iC) (fun self => PySem.W.bind_fn I1.kIn self tI) one
    (codeAny_mono (F1.run _ X.stack _ _ _ _ _ _ (fun _ _ _ => False) (hr.make C us []) (I2.env0.make C us []) bb r2 sp0) fun r s' hq => ?_))
  cases r with
  | error er => exact False.elim hq
  | ok fl =>
    cases fl with
    | ret u =>
      obtain ⟨w, H2, os2, bare2, un2, hok2, rv, ew, eH⟩ := hq
      subst ew eH
      exact ⟨rv, mk_bare (s1 := ⟨hp, g, dr, tk, os⟩) (raises_own T.exC T.tyC) I1 big kk un2 hok2 os2 bare2 q1⟩
    | next => exact False.elim hq
    | brk => exact False.elim hq
    | cont => exact False.elim hq
/-- what the text says of an own class under ValueError, by its name -/
structure ExcX (K : PySem.W.Frag) (x : Str) : Prop where
  o : OexC K (He.ga K x)
  e : ExcC K (He.ga K x)
  i : PySem.W.findIn K (.ref (He.ga K x)) "__init__" = some (some (.ref (He.ma K (He.ga K "FaultError") "__init__")))
  ty : PySem.W.typeIn K (.ref (He.ma K (He.ga K "FaultError") "__init__")) = some (.type "function")
  ve : PySem.W.kitOne K (.ref (He.ga K x)) (.type "ValueError") = some true
  fe : PySem.W.exmOne K (.ref (He.ga K x)) (.ref (He.ga K "FaultError")) = some true
/-! ### isinstance of the exception that stands pinned -/
/-- (a, oe) is an exception of the own class at D, without a dict -/
structure PinX (K : PySem.W.Frag) (D : Addr) (p : Addr × Obj) : Prop where
  c : ExcC K D
  z : Zc (.ref D) none p.2
  f : ∃ vs, p.2.data = .fields vs
def rIsP (K : PySem.W.Frag) (p : Addr × Obj) (xs : List V) (H : Hp) (Q : VK) : Prop :=
  ∃ (D : Addr) (c : V) (u : Value) (b : Bool), PinX K D p ∧ xs = [.ref p.1, c] ∧ ClsV c u ∧ PySem.W.kitOne K (.ref D) u = some b ∧ Q (.bl b) H
def rIsPT (K : PySem.W.Frag) (p : Addr × Obj) (xs : List V) (H : Hp) (Q : VK) : Prop :=
  ∃ (D tp : Addr) (cs : List V) (us : List Value) (b : Bool), PinX K D p ∧ xs = [.ref p.1, .ref tp] ∧ H tp = some (.tup cs) ∧ Paired ClsV cs us ∧ PySem.W.kitAny K (.ref D) us = some b ∧ Q (.bl b) H
theorem pin_inst {K : PySem.W.Frag} {D : Addr} {p : Addr × Obj} {h : Heap} (x : PinX K D p) (hg : h.get? p.1 = some p.2) : PySem.W.InstAt h p.1 p.2 D none := by
  obtain ⟨a, ⟨oc, od, oda, osl⟩⟩ := p
  obtain ⟨_, ⟨z1, z2⟩, vs, z3⟩ := x
  have e1 : oc = .ref D := z1
  have e2 : od = none := z2
  have e3 : oda = .fields vs := z3
  subst e1 e2 e3
  exact ⟨hg, rfl, rfl, trivial⟩
theorem is_pin {K : PySem.W.Frag} {p : Addr × Obj} (hK : X.K = K) (hp : p ∈ X.pn) : CallR X (.builtin "isinstance") (rIsP K p) := by
  subst hK
  intro pins s σ H xs us Q I r h
  obtain ⟨D, c, u, b, px, rfl, k, e, q⟩ := h
  obtain ⟨u1, u2, rfl, r1, r2⟩ := vals2 r
  have e2 := k.eq r2
  subst e2
  cases (show u1 = Value.ref p.1 from r1)
  have J := pin_inst px (I.pin p (List.mem_append_left _ hp)).1
  have C := px.c
  exact PySem.W.kia_one (PySem.W.handS_kitx_exc C.hg C.hk C.hs C.hd C.ha C.hn C.ht C.hm) I.kIn J e (fun z => nomatch z) fun tk => ⟨.bl b, H, I.tok tk, rfl, q⟩
theorem is_pinT {K : PySem.W.Frag} {p : Addr × Obj} (hK : X.K = K) (hp : p ∈ X.pn) : CallR X (.builtin "isinstance") (rIsPT K p) := by
  subst hK
  intro pins s σ H xs us Q I r h
  obtain ⟨D, tp, cs, ws, b, px, rfl, hT, k, e, q⟩ := h
  obtain ⟨u1, u2, rfl, r1, r2⟩ := vals2 r
  cases (show u2 = Value.ref tp from r2)
  cases (show u1 = Value.ref p.1 from r1)
  have J := pin_inst px (I.pin p (List.mem_append_left _ hp)).1
  have C := px.c
  obtain ⟨_, its, rv, o, h1, h2, n, h3⟩ := (show ObjOk X.prog X.w H s.heap tp (.tup cs) from I.hok tp _ hT)
  have e3 := ClsV.all k rv
  subst e3
  obtain ⟨oc, od, dt, sl⟩ := o
  simp only at h2 h3
  subst h2 h3
  exact PySem.W.kia_tup (PySem.W.handS_kitx_exc C.hg C.hk C.hs C.hd C.ha C.hn C.ht C.hm) I.kIn J h1 e (fun z => nomatch z) fun tk => ⟨.bl b, H, I.tok tk, rfl, q⟩
end
/-! ### a def of one parameter, called in an except suite with the exception itself -/
abbrev SpE := Addr → Hp → VK → Prop
structure FnE (P : Program) (w : World) (K : PySem.W.Frag) (mg : Str → Option Value) (base : Heap) (k : Nat) (f : Addr) (sp : SpE) : Prop where
  run : ∀ (A : Around) (outer : List Env) (s : Shared) (H : Hp) (Q : VK) (D : Addr) (p : Addr × Obj), L2H.RoomH k A → L2H.PinOk outer H s p → PinX K D p → Env0 P w K mg base A outer s H → sp D H Q →
    codeAny (model P w) A (.call (.ref f) ⟨[.ref p.1], []⟩) (CR CX0 outer P w H s Q E0) s
theorem fnE_of {P : Program} {w : World} {K : PySem.W.Frag} {mg : Str → Option Value} {base : Heap} {k : Nat} {n : Str × Option Str} {x q y : Str} {st : Stmt} {N : List Str} {sp : SpE} (F : FD K n x q st) (S : FnScope N [y] (defScope st)) (hb : Binds K (fdOf K n) [y] [])
    (body : ∀ (cdv : Value) (A : Around) (outer : List Env) (s : Shared) (H : Hp) (Q : VK) (D : Addr) (p : Addr × Obj), L2H.RoomH k (A.deeper (envOfC q (defScope st) s.heap.objs.size (He.fAd K n) cdv)) → PinX K D p → sp D H Q →
      ∃ t, PSs (L2H.cxH CX0 P w K mg base N q (defScope st) (He.fAd K n) cdv A outer s H E0 p) (defBody st) t ∧ t { nx := fun _ H' => Q .non H', rt := Q } (start N [.ref p.1]) H) :
    FnE P w K mg base (k + 1) (He.fAd K n) sp := by
  obtain ⟨oc, od, dV, kV, doc, pm, an, cdv, ct, osl, e, lk, hcd, _, _⟩ := F.ex
  rw [e] at lk hb
  refine ⟨fun A outer s H Q D p hr pin px e0 hsp => ?_⟩
  have KX : K.In s.heap := e0.mod.kin.keeps fun b o z => (e0.bs b o z).1
  have lim : s.heap.NoLimit := e0.mod.nolimit.keeps fun b o z => (e0.bs b o z).1
  have bb := hb s [Value.ref p.1] KX rfl
  rw [List.append_nil] at bb
  have hkind : ∀ z ∈ [y].zip [Value.ref p.1], (defScope st).names.lookup z.1 = some .local ∨ ((defScope st).names.lookup z.1 = some .cell ∧ ((cellsFrom (s.heap.objs.size + 1) (defScope st).names []).lookup z.1).isSome = true) := by
    intro z hz
    have e1 : z.1 ∈ [y] := (List.of_mem_zip (a := z.1) (b := z.2) hz).1
    rcases S.par z.1 e1 with h | h
    · exact .inl h
    · exact .inr ⟨h, PySem.W.cellsFrom_some _ _ _ (.inl h)⟩
  refine codeAny_call_function hr.depth (KX _ _ lk) rfl S.co S.gen rfl (PySem.W.codeRec_of KX hcd) (bb _ _ _ _ ?_)
  refine wpAny_newFunctionEnv_cells S.kind hkind fun env he s1 z => ?_
  subst he
  refine ⟨lim.keeps z.toInCall.keep, codeAny_func ?_⟩
  obtain ⟨t, ht, hq⟩ := body cdv A outer s H Q D p (hr.deeper _) px hsp
  have I := L2H.inv_startH (CX := CX0) (E := E0) S pin e0 (vs := [V.ref p.1]) (us := [Value.ref p.1]) rfl (.cons rfl .nil) z
  refine wpAny_mono (ht.run [] s1 _ H _ I hq) (fun fl s' hs => ?_) fun e s' hs => hs
  cases fl with
  | ret u =>
    obtain ⟨v, σ', H', J, rv, q⟩ := hs
    exact ⟨v, H', J.os, J.bare, J.base, J.hok, rv, q⟩
  | next =>
    obtain ⟨σ', H', J, q⟩ := hs
    exact ⟨.non, H', J.os, J.bare, J.base, J.hok, rfl, q⟩
  | brk =>
    obtain ⟨_, _, _, q⟩ := hs
    exact False.elim q
  | cont =>
    obtain ⟨_, _, _, q⟩ := hs
    exact False.elim q
/-- f(e) there -/
def tCallE (K : PySem.W.Frag) (p : Addr × Obj) (sp : SpE) (te : TE) : TE := fun σ H Q => te σ H fun x H1 => ∃ D, PinX K D p ∧ x = .ref p.1 ∧ sp D H1 Q
theorem pe_callE {X : Cx} {K : PySem.W.Frag} {k : Nat} {f : Addr} {sp : SpE} {x : Str} {e : Expr} {te : TE} {q pos : Pos} {p : Addr × Obj} (hK : X.K = K) (hp : p ∈ X.pn) (F : FnE X.prog X.w X.K X.mg X.base k f sp) (hr : L2H.RoomH k X.A) (hg : Gl X x) (hm : X.mg x = some (.ref f))
    (hk : PySem.W.keepIn X.K (.ref f) = true) (ha : PE X e te) (hdb : (x == ("__debug__" : Str)) = false := by decide) (he : starEach [e] X.env = [(false, eval e X.env)] := by rfl) : PE X (.Call (.Name x q) [e] [] pos) (tCallE K p sp te) := by
  subst hK
  refine ⟨fun pins s σ H Q I h => ?_⟩
  have hA : PA X [e] (tCons te tNil) := pa_cons ha pa_nil he
  have h' : tCons te tNil σ H (fun vs H1 => ∃ D, PinX X.K D p ∧ vs = [.ref p.1] ∧ sp D H1 Q) := by
    have h0 : te σ H fun x H1 => ∃ D, PinX X.K D p ∧ x = .ref p.1 ∧ sp D H1 Q := h
    have e0 : (fun (x : V) (H1 : Hp) => ∃ D, PinX X.K D p ∧ x = .ref p.1 ∧ sp D H1 Q) = fun x H1 => ∃ D, PinX X.K D p ∧ [x] = [.ref p.1] ∧ sp D H1 Q := by
      funext x H1
      simp
    rw [e0] at h0
    exact h0
  refine wpAny_Call_Name_kw (ld_glob I hg hm ?_ hdb)
  refine PySem.W.callWith_K (h₀ := X.base) I.ok.mod.kin hk (thn (hA.run pos pins s σ H _ I h') fun us s1 ⟨vs, H1, I1, r, D, px, ev, q1⟩ => ⟨I1.kIn, ?_⟩) he rfl
  subst ev
  cases r with
  | cons r1 r2 =>
    cases r2
    cases r1
    have P1 := I1.pin p (List.mem_append_left _ hp)
    have pin : L2H.PinOk X.stack H1 s1 p := ⟨P1.1, P1.2.1, fun z => (List.mem_cons.mp (I1.stkSub p.1 z)).elim P1.2.2.1 P1.2.2.2.1, P1.2.2.2.2⟩
    refine wpAny_call (codeAny_mono (F.run X.A X.stack s1 H1 Q D p hr pin px I1.env0 q1) fun r s' hq => ?_)
    cases r with
    | error e => exact False.elim hq
    | ok fl =>
      cases fl with
      | ret u => exact I1.after hq
      | next => exact False.elim hq
      | brk => exact False.elim hq
      | cont => exact False.elim hq
/-! ### the same in the suite itself: told by the class and the dict that the clause hands on -/
theorem roomS {k j : Nat} {A : Around} {v : Option Value} (hr : Room k A) (h : j ≤ k) : L2H.RoomH j (A.mark v) := ⟨((L2H.roomH_of hr).mono h).dp, ((L2H.roomH_of hr).mono h).un⟩
def rIsS (K : PySem.W.Frag) (a : Addr) (cls : Value) (d : Option Addr) (xs : List V) (H : Hp) (Q : VK) : Prop :=
  ∃ (D : Addr) (c : V) (u : Value) (b : Bool), cls = .ref D ∧ d = none ∧ ExcC K D ∧ xs = [.ref a, c] ∧ ClsV c u ∧ PySem.W.kitOne K (.ref D) u = some b ∧ Q (.bl b) H
def rIsST (K : PySem.W.Frag) (a : Addr) (cls : Value) (d : Option Addr) (xs : List V) (H : Hp) (Q : VK) : Prop :=
  ∃ (D tp : Addr) (cs : List V) (us : List Value) (b : Bool), cls = .ref D ∧ d = none ∧ ExcC K D ∧ xs = [.ref a, .ref tp] ∧ H tp = some (.tup cs) ∧ Paired ClsV cs us ∧ PySem.W.kitAny K (.ref D) us = some b ∧ Q (.bl b) H
def tCallS1 (K : PySem.W.Frag) (a : Addr) (cls : Value) (d : Option Addr) (sp : SpE) (te : TE) : TE := fun σ H Q => te σ H fun x H1 => ∃ D, cls = .ref D ∧ d = none ∧ ExcC K D ∧ x = .ref a ∧ sp D H1 Q
section
variable {X : Cx} {K : PySem.W.Frag} {a : Addr} {oe : Obj} {cls : Value} {d : Option Addr} {pn : List (Addr × Obj)}
theorem is_s (hK : X.K = K) (hz : Zc cls d oe) (hf : ∃ vs, oe.data = .fields vs) : CallR (X.suite a ((a, oe) :: pn)) (.builtin "isinstance") (rIsS K a cls d) := by
  intro pins s σ H xs us Q I r h
  obtain ⟨D, c, u, b, rfl, rfl, hC, e, rest⟩ := h
  exact is_pin (X := X.suite a ((a, oe) :: pn)) (p := (a, oe)) hK (List.mem_cons_self ..) pins s σ H xs us Q I r ⟨D, c, u, b, ⟨hC, hz, hf⟩, e, rest⟩
theorem is_sT (hK : X.K = K) (hz : Zc cls d oe) (hf : ∃ vs, oe.data = .fields vs) : CallR (X.suite a ((a, oe) :: pn)) (.builtin "isinstance") (rIsST K a cls d) := by
  intro pins s σ H xs us Q I r h
  obtain ⟨D, tp, cs, ws, b, rfl, rfl, hC, e, rest⟩ := h
  exact is_pinT (X := X.suite a ((a, oe) :: pn)) (p := (a, oe)) hK (List.mem_cons_self ..) pins s σ H xs us Q I r ⟨D, tp, cs, ws, b, ⟨hC, hz, hf⟩, e, rest⟩
theorem pe_callS1 {k : Nat} {f : Addr} {sp : SpE} {x : Str} {e : Expr} {te : TE} {q pos : Pos} (hK : X.K = K) (hz : Zc cls d oe) (hf : ∃ vs, oe.data = .fields vs) (F : FnE X.prog X.w X.K X.mg X.base k f sp) (hr : L2H.RoomH k (X.suite a ((a, oe) :: pn)).A)
    (hg : Gl (X.suite a ((a, oe) :: pn)) x) (hm : X.mg x = some (.ref f)) (hk : PySem.W.keepIn X.K (.ref f) = true) (ha : PE (X.suite a ((a, oe) :: pn)) e te) (hdb : (x == ("__debug__" : Str)) = false := by decide) (he : starEach [e] X.env = [(false, eval e X.env)] := by rfl) :
    PE (X.suite a ((a, oe) :: pn)) (.Call (.Name x q) [e] [] pos) (tCallS1 K a cls d sp te) := by
  refine ⟨fun pins s σ H Q I h => ?_⟩
  by_cases hd : ∃ D, cls = .ref D ∧ d = none ∧ ExcC K D
  · obtain ⟨D, e1, e2, hC⟩ := hd
    have px : PinX K D (a, oe) := ⟨hC, by rw [← e1, ← e2]; exact hz, hf⟩
    refine (pe_callE (X := X.suite a ((a, oe) :: pn)) (p := (a, oe)) hK (List.mem_cons_self ..) F hr hg hm hk ha hdb he).run pins s σ H Q I ?_
    have h0 : te σ H fun x H1 => ∃ D', cls = .ref D' ∧ d = none ∧ ExcC K D' ∧ x = .ref a ∧ sp D' H1 Q := h
    have eq : (fun (x : V) (H1 : Hp) => ∃ D', cls = .ref D' ∧ d = none ∧ ExcC K D' ∧ x = .ref a ∧ sp D' H1 Q) = fun x H1 => ∃ D', PinX K D' (a, oe) ∧ x = .ref (a, oe).1 ∧ sp D' H1 Q := by
      funext x H1
      refine propext ⟨fun ⟨D', f1, f2, f3, f4, f5⟩ => ⟨D', ⟨f3, by rw [← f1, ← f2]; exact hz, hf⟩, f4, f5⟩, fun ⟨D', f1, f2, f3⟩ => ?_⟩
      have e3 : D' = D := by
        have z1 := f1.z.1
        have z2 := px.z.1
        rw [z1] at z2
        exact Value.ref.inj z2
      subst e3
      exact ⟨_, e1, e2, hC, f2, f3⟩
    rw [eq] at h0
    exact h0
  · have h0 : te σ H fun x H1 => ∃ D', cls = .ref D' ∧ d = none ∧ ExcC K D' ∧ x = .ref a ∧ sp D' H1 Q := h
    have eq : (fun (x : V) (H1 : Hp) => ∃ D', cls = .ref D' ∧ d = none ∧ ExcC K D' ∧ x = .ref a ∧ sp D' H1 Q) = fun x H1 => ∃ D', PinX K D' (a, oe) ∧ x = .ref (a, oe).1 ∧ (False ∧ sp D' H1 Q) := by
      funext x H1
      refine propext ⟨fun ⟨D', f1, f2, f3, _⟩ => (hd ⟨D', f1, f2, f3⟩).elim, fun ⟨_, _, _, f, _⟩ => f.elim⟩
    rw [eq] at h0
    have F0 : FnE X.prog X.w X.K X.mg X.base k f (fun D H Q => False ∧ sp D H Q) := ⟨fun _ _ _ _ _ _ _ _ _ _ _ z => z.1.elim⟩
    exact (pe_callE (X := X.suite a ((a, oe) :: pn)) (p := (a, oe)) hK (List.mem_cons_self ..) F0 hr hg hm hk ha hdb he).run pins s σ H Q I h0
end
section
variable {K : PySem.W.Frag} {σ : L2.St} {H : Hp} {Q : VK} {te : TE} {ta : TA}
theorem rd_callS {sp : Sp} {E : L2.St → XK} (q : ta σ H fun vs H1 => sp vs H1 Q (E σ)) : tCallS sp E ta σ H Q := q
def CS1 (K : PySem.W.Frag) (a : Addr) (cls : Value) (d : Option Addr) (sp : SpE) (x : V) (H : Hp) (Q : VK) : Prop := ∃ D, cls = .ref D ∧ d = none ∧ ExcC K D ∧ x = .ref a ∧ sp D H Q
theorem rd_callS1 {a : Addr} {cls : Value} {d : Option Addr} {sp : SpE} (q : te σ H fun x H1 => CS1 K a cls d sp x H1 Q) : tCallS1 K a cls d sp te σ H Q := q
theorem rd_cs1 {a D : Addr} {sp : SpE} (C : ExcC K D) (q : sp D H Q) : CS1 K a (.ref D) none sp (.ref a) H Q := ⟨D, rfl, rfl, C, rfl, q⟩
theorem rd_isS {a D : Addr} {c : V} {u : Value} {b : Bool} (C : ExcC K D) (k : ClsV c u) (e : PySem.W.kitOne K (.ref D) u = some b) (q : Q (.bl b) H) : rIsS K a (.ref D) none [.ref a, c] H Q := ⟨D, c, u, b, rfl, rfl, C, rfl, k, e, q⟩
end
end FS

set_option Elab.async false
set_option linter.all false
set_option maxRecDepth 100000
set_option maxHeartbeats 8000000
/-! ### except (C1, .., Cn): clauses whose class is a written tuple of names -/
namespace PySem.W
open PySem PySem.Spec PySem.Calls PyProof.Rows
theorem exm_five {M : Model} {K : Frag} {c1 c2 c3 c4 c5 cls : Value} {tp e : Addr} {b : Bool} {h : Heap} (X : K.In h) (LT : Looks M h (typeOf (.ref e)) cls)
    (hp : h.get? tp = some { cls := .type "tuple", data := .seq [c1, c2, c3, c4, c5].toArray }) (hx : exmAny K cls [c1, c2, c3, c4, c5] = some b) : Looks M h (excMatches (.ref e) (.ref tp)) b := by
  intro A Q E s k₀ q
  obtain ⟨hh, g, d, tk, os⟩ := s
  have kk : ∀ b o, h.get? b = some o → hh.get? b = some o := k₀
  have T0 : Looks M h (isInstance (.ref tp) (.type "tuple")) true := ((Looks.ld hp).andThen .now).andThen (Looks.of_pure isSubtype_tuple_tuple)
  obtain ⟨b1, r1, x1, y1, z1⟩ := exmAny_cons hx
  obtain ⟨b2, r2, x2, y2, z2⟩ := exmAny_cons y1
  obtain ⟨b3, r3, x3, y3, z3⟩ := exmAny_cons y2
  obtain ⟨b4, r4, x4, y4, z4⟩ := exmAny_cons y3
  obtain ⟨b5, r5, x5, y5, z5⟩ := exmAny_cons y4
  have z6 : some false = some r5 := y5
  cases z6
  obtain ⟨e1, S1⟩ := exm_cls (M := M) X x1
  obtain ⟨e2, S2⟩ := exm_cls (M := M) X x2
  obtain ⟨e3, S3⟩ := exm_cls (M := M) X x3
  obtain ⟨e4, S4⟩ := exm_cls (M := M) X x4
  obtain ⟨e5, S5⟩ := exm_cls (M := M) X x5
  replace e1 := e1.keeps kk; replace e2 := e2.keeps kk; replace e3 := e3.keeps kk; replace e4 := e4.keeps kk; replace e5 := e5.keeps kk
  replace S1 := S1.keeps kk; replace S2 := S2.keeps kk; replace S3 := S3.keeps kk; replace S4 := S4.keeps kk; replace S5 := S5.keeps kk
  replace LT := LT.keeps kk
  replace T0 := T0.keeps kk
  have hp' := kk _ _ hp
  subst z1 z2 z3 z4 z5
  unfold excMatches
  refine wpAny_bind (T0.at ?_)
  dsimp only
  rw [if_pos rfl]
  first
    | refine wpAny_bind (wpAny_seqItems hp' rfl ?_)
    | refine wpAny_bind (wpAny_bind (wpAny_seqItems hp' rfl (wpAny_pure ?_)))
  dsimp only [Option.getD_some, Option.getD]
  cases b1 <;> cases b2 <;> cases b3 <;> cases b4 <;> cases b5 <;> ((repeat (first | simp only [List.forIn_cons, List.forIn_nil, Bool.not_true, Bool.false_eq_true, if_false, if_true] | lk)); exact q)
end PySem.W
namespace FS
open PySem PySem.Spec PyProof.Rows L2
def TupM (cs : List Value) : Prop := ∀ (M : Model) (K : PySem.W.Frag) (cls : Value) (tp e : Addr) (b : Bool) (h : Heap), K.In h → PySem.W.Looks M h (typeOf (.ref e)) cls → h.get? tp = some { cls := .type "tuple", data := .seq cs.toArray } →
  PySem.W.exmAny K cls cs = some b → PySem.W.Looks M h (excMatches (.ref e) (.ref tp)) b
theorem tupM4 {c1 c2 c3 c4 : Value} : TupM [c1, c2, c3, c4] := fun _ _ _ _ _ _ _ X L hp hx => PySem.W.exm_tup4 X L hp hx
theorem tupM5 {c1 c2 c3 c4 c5 : Value} : TupM [c1, c2, c3, c4, c5] := fun _ _ _ _ _ _ _ X L hp hx => PySem.W.exm_five X L hp hx
inductive NmsX (X : Cx) : List Expr → List Value → Prop
  | nil : NmsX X [] []
  | cons {x : Str} {c : Value} {np : Pos} {es : List Expr} {cs : List Value} (hc : Names X x c) (r : NmsX X es cs) : NmsX X (.Name x np :: es) (c :: cs)
theorem nms_eval {X : Cx} {a : Addr} {pn : List (Addr × Obj)} {σ : L2.St} {H : Hp} {s : Shared} (S : Inv (X.suite a pn) [] σ H s) {pos : Pos} {E : Value → Shared → Prop} : ∀ {es : List Expr} {cs : List Value}, NmsX X es cs → ∀ {Q : List Value → Shared → Prop}, Q cs s →
    wpAny (model X.prog X.w) (X.A.mark (some (.ref a))) (spliced (backTo pos (starEach es X.env))) Q E s
  | _, _, .nil, Q, q => Calls.spliced_nil q
  | _, _, .cons (x := x) (c := c) (np := np) (es := es) (cs := cs) hc r, Q, q => by
    show wpAny _ _ (spliced ((false, eval (.Name x np) X.env) :: backTo pos (starEach es X.env))) _ _ s
    refine Calls.spliced_cons ?_
    have more : wpAny (model X.prog X.w) (X.A.mark (some (.ref a))) (spliced (backTo pos (starEach es X.env))) (fun us s1 => Q (c :: us) s1) E s := nms_eval S r q
    obtain ⟨hg, hdbg, hm | ⟨hm, hv, hnn⟩⟩ := hc
    · exact ld_glob (X := X.suite a pn) S hg hm more hdbg
    · exact ld_blt (X := X.suite a pn) S hg hm hv more hnn hdbg
theorem flying_more {B : Heap} {l : List Env} {e : Addr} {Z : Obj → Prop} {h h' : Heap} (x : HandSPX.FlyingZ B l e Z h) (k : ∀ b o, h.get? b = some o → h'.get? b = some o) : HandSPX.FlyingZ B l e Z h' := by
  obtain ⟨a1, a2, a3, oe, vs, T, oT, ts, t1, t2, t3, t4, t5, t6, t7, t8⟩ := x
  exact ⟨fun b o z => k b o (a1 b o z), a2, Heap.FunFrames.of_keeps (fun b o z _ => ⟨o, k b o z, rfl⟩) a3, oe, vs, T, oT, ts, k _ _ t1, t2, t3, t4, t5, t6, k _ _ t7, t8⟩
abbrev TsE := Addr → Value → Option Addr → TS
def wTup (K : PySem.W.Frag) (Wout : WX) (D : Ends) : List (List Value × TsE) → WX
  | [] => Wout
  | (cs, ts) :: r => fun cls d σ H => ∃ b, PySem.W.exmAny K cls cs = some b ∧ (b = true → ∀ a, H a = none → ts a cls d D σ H) ∧ (b = false → wTup K Wout D r cls d σ H)
inductive HdT (X : Cx) : List ExceptHandler → List (List Value × TsE) → Prop
  | nil : HdT X [] []
  | cons {es : List Expr} {cs : List Value} {k : Nat} {ts : TsE} {b₀ : Stmt} {suite : List Stmt} {tp pos' : Pos} {hds : List ExceptHandler} {l : List (List Value × TsE)} (hn : NmsX X es cs) (ht : TupM cs) (hz : cs.length ≤ 1000)
      (hsu : ∀ (a : Addr) (oe : Obj) (cls : Value) (d : Option Addr) (pn : List (Addr × Obj)), Zc cls d oe → (∃ vs, oe.data = .fields vs) → PSs (X.suite a ((a, oe) :: pn)) (b₀ :: suite) (ts a cls d)) (r : HdT X hds l) :
      HdT X (.ExceptHandler (some (.Tuple es k tp)) none (b₀ :: suite) pos' :: hds) ((cs, ts) :: l)
theorem ps_try_tups {X : Cx} {body : List Stmt} {h₀ : ExceptHandler} {hds : List ExceptHandler} {l : List (List Value × TsE)} {pos : Pos} {tb : WX → TS} {Wout : WX} (hs : X.stack = X.env :: X.outer) (hf : X.env.frame = some X.env.locals) (tk : Takes X Wout)
    (hb : ∀ (W : WX) (pn : List (Addr × Obj)) (xe : Value → Shared → Prop), Takes (X.tr pn xe) W → PassesOwn (model X.prog X.w) X.A X.env xe → PSs (X.tr pn xe) body (tb W))
    (hh : HdT X (h₀ :: hds) l) : PS X (.Try body (h₀ :: hds) [] [] pos) (fun D σ H => tb (wTup X.K Wout D l) D σ H) := by
  refine ⟨fun pins s σ H D I h => ?_⟩
  have ok := I.ok
  have frames : X.A.frames = some (X.env :: X.outer) := by rw [ok.frames, hs]
  refine wpAny_Try_except ?_
  refine wpAny_mono ((hb (wTup X.K Wout D l) (X.pn ++ pins) _ (fun u s' xx => ?_) PassesOwn.looking).run [] s σ H D (I.toTry _) h) (fun f s1 hsp => ?_) (fun e s1 he => he)
  · obtain ⟨a, B, sI, pins', σ', H', cls, d, rfl, J', nb, up, sky, na, os, ag, w⟩ := xx
    have J : Inv X pins σ' H' sI := J'.ofTry ok
    rw [show (X.tr (X.pn ++ pins) _).stack = X.env :: X.outer from hs] at sky
    show wpAny (model X.prog X.w) X.A (noteFrame (.ref a) X.env) _ _ _
    refine Sky.land Zc.steady frames hf sky fun h3 fl3 up3 => ?_
    have go : ∀ {hds' : List ExceptHandler} {l' : List (List Value × TsE)}, HdT X hds' l' → wTup X.K Wout D l' cls d σ' H' → ∀ (h3 : Heap), HandSPX.FlyingZ B (X.env :: X.outer) a (Zc cls d) h3 → s'.heap.UpToSlots h3 →
        wpAny (model X.prog X.w) X.A (handleBy (.ref a) X.env hds') (SP X pins D) X.xe { s' with heap := h3 } := by
      intro hds' l' hk
      induction hk with
      | nil =>
        intro w h3 fl3 up3
        refine wpAny_handleBy_nil ?_
        obtain ⟨k1, k2, k3, oe, vs, T, oT, ts', he, hz, hd, h1, hr⟩ := id fl3
        unfold PySem.passOn
        refine wpAny_bind (wpAny_field he hd h1 ?_)
        rw [if_neg (show ¬ ((Value.ref T == Value.none) = true) from by simp)]
        have last : wpAny (model X.prog X.w) X.A (setFlight (.ref a) X.env.frame) (fun _ s4 => wpAny (model X.prog X.w) X.A (throw (.ref a) : Sem Flow) (SP X pins D) X.xe s4) X.xe { s' with heap := h3 } := by
          rw [hf]
          refine HandSPX.setFlight_upZ fl3 fun h4 hh4 up4 => wpAny_throw (tk _ _ ?_)
          exact ⟨a, B, sI, pins, σ', H', cls, d, rfl, J, nb, (up.trans up3).trans up4, .inr (.inr (by rw [hs]; exact hh4)), na, os, ag, w⟩
        first
          | exact wpAny_bind (wpAny_pure (wpAny_bind last))
          | exact wpAny_bind last
      | @cons es cs kk ts b₀ suite tp pos' hds2 l2 hn ht hz hsu r ih =>
        intro w h3 fl3 up3
        obtain ⟨b, hb1, hyes, hno⟩ := w
        have J3 : Inv X pins σ' H' { s' with heap := h3 } := J.landed nb fl3.1 (up.trans up3) os ag
        obtain ⟨oe3, vs3, he3, hz3, hd3⟩ := fl3.there
        have nfr : a ∉ frs (X.env :: X.outer) := fun hm => by
          obtain ⟨_, o', e', hnf⟩ := fl3.2.2.1.mem hm
          rw [he3] at e'
          cases e'
          exact hnf _ hd3
        have nL : a ≠ X.env.locals := fun z => nfr (List.mem_filterMap.mpr ⟨X.env, List.mem_cons_self, by rw [hf, z]⟩)
        have nF : a ∉ X.fs := fun hm => by
          obtain ⟨e, he, q⟩ := List.mem_filterMap.mp hm
          exact nfr (List.mem_filterMap.mpr ⟨e, List.mem_cons_of_mem _ he, q⟩)
        have S3 := J3.suite he3 hd3 na nL nF
        refine wpAny_handleBy_cons (codeAny_handlers_test ?_) (by intro q; cases q)
        refine wpAny_Tuple_spliced (nms_eval S3 hn ⟨Nat.le_trans hz (by decide), ?_⟩)
        have kp : ∀ b o, h3.get? b = some o → (h3.push { cls := .type "tuple", data := .seq cs.toArray }).get? b = some o := fun b o z => Heap.get?_push_of_some _ z
        have fl4 := flying_more fl3 kp
        have up4 : s'.heap.UpToSlots (h3.push { cls := .type "tuple", data := .seq cs.toArray }) := up3.trans (Heap.UpToSlots.of_keeps kp)
        have LT : PySem.W.Looks (model X.prog X.w) (h3.push { cls := .type "tuple", data := .seq cs.toArray }) (typeOf (.ref a)) cls := fun A Q E s k q => wpAny_typeOf_ref (k _ _ (kp _ _ he3)) (by rw [hz3.1]; exact q)
        have LM := ht (model X.prog X.w) X.K cls h3.objs.size a b _ (J3.kIn.keeps kp) LT (by heap_get) hb1
        refine LM.here ?_
        cases b with
        | true =>
          refine codeAny_handlers_suite ?_
          refine HandSPX.lands_againZ fl4 fun h5 fl5 up5 => ?_
          have J5 : Inv X pins σ' H' { s' with heap := h5 } := J.landed nb fl5.1 ((up.trans up4).trans up5) os ag
          obtain ⟨oe5, vs5, he5, hz5, hd5⟩ := fl5.there
          have S5 := J5.suite he5 hd5 na nL nF
          refine wpAny_mono ((hsu a oe5 cls d (X.pn ++ pins) hz5 ⟨_, hd5⟩).run [] _ _ H' _ S5 (hyes rfl a na)) (fun f s6 hsp => ?_) (fun _ _ z => False.elim z)
          cases f with
          | next =>
            obtain ⟨σ6, H6, S6, q6⟩ := hsp
            exact ⟨_, _, S6.unsuite ok, q6⟩
          | brk =>
            obtain ⟨σ6, H6, S6, q6⟩ := hsp
            exact ⟨_, _, S6.unsuite ok, q6⟩
          | cont =>
            obtain ⟨σ6, H6, S6, q6⟩ := hsp
            exact ⟨_, _, S6.unsuite ok, q6⟩
          | ret u =>
            obtain ⟨v6, σ6, H6, S6, r6, q6⟩ := hsp
            exact ⟨_, _, _, S6.unsuite ok, r6, q6⟩
        | false =>
          show wpAny _ X.A (handleBy (.ref a) X.env hds2) _ _ _
          exact ih (hno rfl) _ fl4 up4
    exact go hh w h3 fl3 up3
  · cases f with
    | next =>
      obtain ⟨σ', H', J', q⟩ := hsp
      exact wpAny_execs_nil ⟨σ', H', J'.ofTry ok, q⟩
    | brk =>
      obtain ⟨σ', H', J', q⟩ := hsp
      exact ⟨σ', H', J'.ofTry ok, q⟩
    | cont =>
      obtain ⟨σ', H', J', q⟩ := hsp
      exact ⟨σ', H', J'.ofTry ok, q⟩
    | ret u =>
      obtain ⟨v, σ', H', J', r, q⟩ := hsp
      exact ⟨v, σ', H', J'.ofTry ok, r, q⟩
end FS

set_option Elab.async false
set_option linter.all false
set_option maxRecDepth 100000
set_option maxHeartbeats 4000000
namespace FS
open PySem PySem.Spec PyProof.Rows L2
/-! ### facts of own exception classes, as one truth each -/
def oexB (K : PySem.W.Frag) (C : Addr) : Bool :=
  (match K.lookup C with
    | some ⟨.type t, _, .cls cd, sl⟩ => decide (t = "type") && (match cd.mro, sl.toList with
      | .ref c :: bm, [_, _, _, _, some (.builtin n), _] => decide (c = C) && decide (n = "ValueError.__new__") && !cd.hasDel && cd.hasDict && PySem.HandSPX.refsVE bm
      | _, _ => false)
    | _ => false) &&
  (He.eqO (PySem.W.findIn K (.ref C) "__setattr__") (some (some (.builtin "object.__setattr__"))) && (decide (PySem.W.subIn K (.ref C) (.type "BaseException") = some true) && (decide (PySem.W.typeIn K (.ref C) = some (.type "type")) && PySem.W.keepIn K (.ref C))))
theorem oexB_ok {K : PySem.W.Frag} {C : Addr} (h : oexB K C = true) : OexC K C := by
  obtain ⟨h1, h2⟩ := He.ba h
  obtain ⟨h2, h3⟩ := He.ba h2
  obtain ⟨h3, h4⟩ := He.ba h3
  obtain ⟨h4, h5⟩ := He.ba h4
  refine ⟨?_, He.eqO_ok h2, of_decide_eq_true h3, of_decide_eq_true h4, h5⟩
  cases e : K.lookup C with
  | none =>
    rw [e] at h1
    cases h1
  | some o =>
    rw [e] at h1
    obtain ⟨oc, od, dt, sl⟩ := o
    cases oc with
    | type t =>
      cases dt with
      | cls cd =>
        obtain ⟨g1, g2⟩ := He.ba h1
        have et : t = "type" := of_decide_eq_true g1
        subst et
        obtain ⟨nm, bs, mro, ns, qn, hd, sn, sb, ab, col, del⟩ := cd
        cases mro with
        | nil => cases g2
        | cons v bm =>
          cases v with
          | ref c =>
            obtain ⟨sl⟩ := sl
            match sl, g2 with
            | [k0, k1, k2, k3, some (.builtin n), k5], g2 =>
              obtain ⟨g2, g6⟩ := He.ba g2
              obtain ⟨g2, g5⟩ := He.ba g2
              obtain ⟨g2, g4⟩ := He.ba g2
              obtain ⟨g2, g3⟩ := He.ba g2
              have ec : c = C := of_decide_eq_true g2
              have en : n = "ValueError.__new__" := of_decide_eq_true g3
              have e4 : del = false := by
                cases del
                · rfl
                · cases g4
              have e5 : hd = true := g5
              subst ec en e4 e5
              exact ⟨nm, qn, ns, bs, bm, sn, sb, ab, col, od, k0, k1, k2, k3, k5, rfl, g6⟩
          | _ => cases g2
      | _ => cases h1
    | _ => cases h1
def excB (K : PySem.W.Frag) (D : Addr) : Bool :=
  He.eqO (PySem.W.findIn K (.ref D) "__getattribute__") (some (some (.builtin "BaseException.__getattribute__"))) && (He.eqO (PySem.W.findIn K (.ref D) "__getattr__") (some none) && (decide (PySem.W.subIn K (.ref D) (.type "BaseException") = some true) &&
  (PySem.W.hasDictIn K D && (He.eqO (PySem.W.findIn K (.ref D) "__class__") (some (some (.builtin "object.__class__"))) && (He.eqO (PySem.W.specialIn K (.builtin "object.__class__") "__get__") (some (some (.builtin "getset_descriptor.__get__"))) &&
  (decide (PySem.W.takesIn K (.builtin "object.__class__") = some true) && decide (PySem.W.mroIn K D (.type "object") = some true)))))))
theorem excB_ok {K : PySem.W.Frag} {D : Addr} (h : excB K D = true) : ExcC K D := by
  obtain ⟨h1, h⟩ := He.ba h
  obtain ⟨h2, h⟩ := He.ba h
  obtain ⟨h3, h⟩ := He.ba h
  obtain ⟨h4, h⟩ := He.ba h
  obtain ⟨h5, h⟩ := He.ba h
  obtain ⟨h6, h⟩ := He.ba h
  obtain ⟨h7, h8⟩ := He.ba h
  exact ⟨He.eqO_ok h1, He.eqO_ok h2, of_decide_eq_true h3, h4, He.eqO_ok h5, He.eqO_ok h6, of_decide_eq_true h7, of_decide_eq_true h8⟩
def excXB (K : PySem.W.Frag) (x : Str) : Bool :=
  oexB K (He.ga K x) && (excB K (He.ga K x) && (He.eqO (PySem.W.findIn K (.ref (He.ga K x)) "__init__") (some (some (.ref (He.ma K (He.ga K "FaultError") "__init__")))) &&
  (decide (PySem.W.typeIn K (.ref (He.ma K (He.ga K "FaultError") "__init__")) = some (.type "function")) && (decide (PySem.W.kitOne K (.ref (He.ga K x)) (.type "ValueError") = some true) &&
  decide (PySem.W.exmOne K (.ref (He.ga K x)) (.ref (He.ga K "FaultError")) = some true)))))
theorem excXB_ok {K : PySem.W.Frag} {x : Str} (h : excXB K x = true) : ExcX K x := by
  obtain ⟨h1, h⟩ := He.ba h
  obtain ⟨h2, h⟩ := He.ba h
  obtain ⟨h3, h⟩ := He.ba h
  obtain ⟨h4, h⟩ := He.ba h
  obtain ⟨h5, h6⟩ := He.ba h
  exact ⟨oexB_ok h1, excB_ok h2, He.eqO_ok h3, of_decide_eq_true h4, of_decide_eq_true h5, of_decide_eq_true h6⟩
def viB (K : PySem.W.Frag) : Bool := match PySem.W.findCls K (.type "ValueError") (.type "type") "__init__" with
  | some (.val (.builtin n)) => decide (n = "ValueError.__init__")
  | _ => false
theorem viB_ok {K : PySem.W.Frag} (h : viB K = true) : PySem.W.findCls K (.type "ValueError") (.type "type") "__init__" = some (.val (.builtin "ValueError.__init__")) := by
  unfold viB at h
  split at h
  · rename_i n e
    rw [e, of_decide_eq_true h]
  · cases h
/-! ### a def of the head -/
abbrev dd (at_ : Str × Option Str) (x q : Str) (st : Stmt) : He.DefD := ⟨at_, x, q, defArgs st, defBody st, defScope st, [], []⟩
end FS

set_option Elab.async false
set_option linter.all false
set_option maxRecDepth 100000
set_option maxHeartbeats 4000000
namespace KL
open PySem PySem.Spec PyProof.Rows L2 FS
def top (i : Nat) : Stmt := PySem.Challenge.pw_faultsheaves_k18_refusals_by_class.main.body.getD i (.Pass ⟨0, 0, 0, 0⟩)
abbrev s_FaultError_init : Stmt := inClass (top 1) 0
abbrev nm_FaultError_init : List Str := ["self", "text"]
abbrev pr_FaultError_init : List Str := ["self", "text"]
theorem sc_FaultError_init : FnScope nm_FaultError_init pr_FaultError_init (defScope s_FaultError_init) := ⟨rfl, rfl, rfl, by decide +kernel, rfl, by decide +kernel, by decide +kernel⟩
abbrev s_l_pot : Stmt := top 12
abbrev nm_l_pot : List Str := ["_law_script", "_law_k", "_law_cell", "_law_seed"]
abbrev pr_l_pot : List Str := ["_law_script", "_law_k"]
theorem sc_l_pot : FnScope nm_l_pot pr_l_pot (defScope s_l_pot) := ⟨rfl, rfl, rfl, by decide +kernel, rfl, by decide +kernel, by decide +kernel⟩
abbrev s_l_digit : Stmt := top 13
abbrev nm_l_digit : List Str := ["_law_pot_here", "_law_many", "_law_digit_here", "_law_mixed"]
abbrev pr_l_digit : List Str := ["_law_pot_here", "_law_many"]
theorem sc_l_digit : FnScope nm_l_digit pr_l_digit (defScope s_l_digit) := ⟨rfl, rfl, rfl, by decide +kernel, rfl, by decide +kernel, by decide +kernel⟩
abbrev s_l_text : Stmt := top 14
abbrev nm_l_text : List Str := ["_law_pot_here", "_law_signs", "_law_size", "_law_k"]
abbrev pr_l_text : List Str := ["_law_pot_here"]
theorem sc_l_text : FnScope nm_l_text pr_l_text (defScope s_l_text) := ⟨rfl, rfl, rfl, by decide +kernel, rfl, by decide +kernel, by decide +kernel⟩
abbrev s_l_sorts : Stmt := top 15
abbrev nm_l_sorts : List Str := ["_law_e", "_law_some"]
abbrev pr_l_sorts : List Str := ["_law_e"]
theorem sc_l_sorts : FnScope nm_l_sorts pr_l_sorts (defScope s_l_sorts) := ⟨rfl, rfl, rfl, by decide +kernel, rfl, by decide +kernel, by decide +kernel⟩
abbrev s_l_raised : Stmt := top 16
abbrev nm_l_raised : List Str := ["_law_which", "_law_text_here"]
abbrev pr_l_raised : List Str := ["_law_which", "_law_text_here"]
theorem sc_l_raised : FnScope nm_l_raised pr_l_raised (defScope s_l_raised) := ⟨rfl, rfl, rfl, by decide +kernel, rfl, by decide +kernel, by decide +kernel⟩
abbrev s_l_caught : Stmt := top 17
abbrev nm_l_caught : List Str := ["_law_which", "_law_text_here", "_law_found", "_law_e"]
abbrev pr_l_caught : List Str := ["_law_which", "_law_text_here"]
theorem sc_l_caught : FnScope nm_l_caught pr_l_caught (defScope s_l_caught) := ⟨rfl, rfl, rfl, by decide +kernel, rfl, by decide +kernel, by decide +kernel⟩
abbrev s_l_by_own : Stmt := top 18
abbrev nm_l_by_own : List Str := ["_law_which", "_law_text_here", "_law_found"]
abbrev pr_l_by_own : List Str := ["_law_which", "_law_text_here"]
theorem sc_l_by_own : FnScope nm_l_by_own pr_l_by_own (defScope s_l_by_own) := ⟨rfl, rfl, rfl, by decide +kernel, rfl, by decide +kernel, by decide +kernel⟩
abbrev s_law : Stmt := top 19
abbrev nm_law : List Str := ["_law_script", "_law_text_here", "_law_which", "_law_k"]
abbrev pr_law : List Str := ["_law_script"]
theorem sc_law : FnScope nm_law pr_law (defScope s_law) := ⟨rfl, rfl, rfl, by decide +kernel, rfl, by decide +kernel, by decide +kernel⟩
structure Tx (K : PySem.W.Frag) (mg : Str → Option Value) : Prop where
  m_FaultError_init : Mx K "FaultError" "__init__" "FaultError.__init__" s_FaultError_init pr_FaultError_init
  f_l_pot : Fx K mg "_law_pot" s_l_pot pr_l_pot
  f_l_digit : Fx K mg "_law_digit" s_l_digit pr_l_digit
  f_l_text : Fx K mg "_law_text" s_l_text pr_l_text
  f_l_sorts : Fx K mg "_law_sorts" s_l_sorts pr_l_sorts
  f_l_raised : Fx K mg "_law_raised" s_l_raised pr_l_raised
  f_l_caught : Fx K mg "_law_caught" s_l_caught pr_l_caught
  f_l_by_own : Fx K mg "_law_by_own" s_l_by_own pr_l_by_own
  f_law : Fx K mg "law" s_law pr_law
  n_ValueError : mg "ValueError" = none
  n_int : mg "int" = none
  n_isinstance : mg "isinstance" = none
  n_len : mg "len" = none
  n_max : mg "max" = none
  n_range : mg "range" = none
  k_FaultError : mg "FaultError" = some (.ref (He.ga K "FaultError"))
  k_NoKind : mg "NoKind" = some (.ref (He.ga K "NoKind"))
  k_NoText : mg "NoText" = some (.ref (He.ga K "NoText"))
  k_NoFault : mg "NoFault" = some (.ref (He.ga K "NoFault"))
  k_Empty : mg "Empty" = some (.ref (He.ga K "Empty"))
  k_NoWay : mg "NoWay" = some (.ref (He.ga K "NoWay"))
  k_NoTest : mg "NoTest" = some (.ref (He.ga K "NoTest"))
  k_NoProgram : mg "NoProgram" = some (.ref (He.ga K "NoProgram"))
  k_NoBody : mg "NoBody" = some (.ref (He.ga K "NoBody"))
  k_NoRow : mg "NoRow" = some (.ref (He.ga K "NoRow"))
  vi : PySem.W.findCls K (.type "ValueError") (.type "type") "__init__" = some (.val (.builtin "ValueError.__init__"))
  x_FaultError : ExcX K "FaultError"
  x_NoKind : ExcX K "NoKind"
  x_NoText : ExcX K "NoText"
  x_NoFault : ExcX K "NoFault"
  x_Empty : ExcX K "Empty"
  x_NoWay : ExcX K "NoWay"
  x_NoTest : ExcX K "NoTest"
  x_NoProgram : ExcX K "NoProgram"
  x_NoBody : ExcX K "NoBody"
  x_NoRow : ExcX K "NoRow"
local macro_rules | `(tactic| walk_at "ne") => `(tactic| first
  | assumption
  | (refine Ne.symm ?_; assumption))
local macro_rules | `(tactic| walk_at "hp") => `(tactic| first
  | assumption
  | exact upd_same
  | (refine upd_old (by assumption) ?_; walk_at "hp")
  | (refine upd_far ?_ ?_; (focus walk_at "ne"); walk_at "hp"))
local macro_rules | `(tactic| walk_at "st") => `(tactic| first
  | with_reducible refine rd_seq ?_
  | with_reducible refine rd_asg ?_
  | with_reducible refine rd_ret ?_
  | with_reducible refine rd_ifs ?_
  | with_reducible refine rd_op ?_
  | with_reducible refine rd_c ?_
  | ((with_reducible refine rd_var (v := ?v) ?h ?_); (case h => rfl))
  | with_reducible refine rd_cons ?_
  | with_reducible refine rd_nil ?_
  | with_reducible refine rd_call ?_
  | with_reducible refine rd_cb ?_
  | with_reducible refine rd_name ?_
  | with_reducible refine rd_sub ?_
  | with_reducible refine rd_test ?_
  | with_reducible refine rd_tup ?_
  | with_reducible refine rd_lst ?_
  | with_reducible refine rd_next ?_
  | with_reducible refine rd_drop ?_
  | with_reducible refine rd_i0 ?_
  | with_reducible refine rd_bl ?_
  | with_reducible refine rd_blI ?_
  | with_reducible refine rd_and ?_
  | with_reducible refine rd_or ?_
  | with_reducible refine rd_not ?_
  | with_reducible refine rd_andV ?_
  | with_reducible refine rd_orV ?_
  | with_reducible refine rd_notV ?_
  | with_reducible refine rd_if ?_
  | with_reducible refine rd_un ?_
  | with_reducible refine rd_b ?_
  | with_reducible refine rd_retN ?_
  | ((with_reducible refine rd_eq ?_ ?_); focus rfl)
  | ((with_reducible refine rd_ne ?_ ?_); focus rfl)
  | with_reducible refine rd_ixL (by walk_at "hp") (by with_unfolding_all rfl) ?_
  | with_reducible refine rd_ixT (by walk_at "hp") (by with_unfolding_all rfl) ?_
  | with_reducible refine rd_setL (by walk_at "hp") (by with_unfolding_all rfl) ?_
  | ((with_reducible refine rd_i ?_ ?_); focus walk_at "cnd")
  | with_reducible refine rd_size (by simp) ?_
  | with_reducible refine rd_intB ?_
  | with_reducible refine rd_m1 ?_
  | with_reducible refine rd_str ?_
  | with_reducible refine rd_lenL (by assumption) ?_
  | with_reducible refine rd_lc ?_
  | with_reducible refine rd_for ?_
  | with_reducible refine rd_rng1 ?_
  | with_reducible refine rd_rng2 ?_
  | with_reducible refine rd_ilist ?_
  | with_reducible refine rd_yes ?_
  | with_reducible refine rd_then ?_
  | with_reducible refine rd_else ?_
  | with_reducible refine rd_thenN ?_
  | with_reducible refine rd_elseN ?_
  | with_reducible refine rd_callS ?_
  | with_reducible refine rd_callS1 ?_
  | ((with_reducible refine rd_cat (xs := ?xs) (zs := ?zs) ?h1 ?h2 ?z ?_); (case h1 => walk_at "hp"); (case h2 => walk_at "hp"); (case z => simp)))
local macro_rules | `(tactic| walk_at "cnd") => `(tactic| first
  | assumption
  | (show (0 : Int) < _; first | decide | omega)
  | (show (0 : Int) < _ ∧ _ < (1073741824 : Int); exact ⟨by omega, by omega⟩)
  | (refine Or.inr ⟨?_, ?_⟩ <;> first | decide | omega)
  | (refine Or.inl ⟨?_, ?_⟩ <;> first | decide | omega)
  | (refine And.intro ?_ (And.intro ?_ ?_) <;> first | decide | omega))
local macro_rules | `(tactic| walk_at "go") => `(tactic| repeat (first | walk_at "st" | dsimp only [Bool.not_true, Bool.not_false]))
local macro_rules | `(tactic| walk_at "begin") => `(tactic| ((try dsimp only [cxOf, Cx.nox, Cx.wish]); walk_at "go"))
local macro_rules | `(tactic| walk_at "same") => `(tactic| first
  | assumption
  | exact Same.refl _
  | (refine Same.trans ?_ (same_new (by assumption)); walk_at "same"))
section
variable {P : Program} {w : World} {K : PySem.W.Frag} {mg : Str → Option Value} {base : Heap}
theorem ok_l_digit (T : Tx K mg) : FO P w K mg base 1 ("_law_digit", none) pr_l_digit spDigit := by
  refine ok0 T.f_l_digit.fn sc_l_digit (fun vs H Q E h => ?_) (fun cdv A outer s H vs Q E hr h => ?_)
  · obtain ⟨p, m, n, rfl, _⟩ := h
    rfl
  · obtain ⟨p, m, n, rfl, hm0, hm1, hn, ⟨a, b, c, e, ha, hb0, hb1, hc0, hc1⟩, k⟩ := h
    refine ⟨_, (pss_cons (ps_if (pt_cmpR op_gt (pe_ix (u_ix (K := K) rfl) (pv 0) pe_int (fun _ _ => rfl)) pe_int (nomark _))
 (pss_cons (ps_set (i := 2) sc_l_digit.nd rfl (by first | exact Or.inl rfl | exact Or.inr rfl) (pe_op op_mod (pe_ix (u_ix (K := K) rfl) (pv 0) pe_int (fun _ _ => rfl)) (pv 1)))
 (pss_cons (ps_asg (pe_op op_fdiv (pe_ix (u_ix (K := K) rfl) (pv 0) pe_int (fun _ _ => rfl)) (pv 1)) (pg_sub (pv 0) pe_int set_list))
 (pss_one (ps_ret (pv 2)))))
 pss_nil)
 (pss_cons (ps_asg (pe_op op_add (pe_ix (u_ix (K := K) rfl) (pv 0) pe_int (fun _ _ => rfl)) pe_int) (pg_sub (pv 0) pe_int set_list))
 (pss_cons (ps_asg (pe_op op_mod (pe_op op_add (pe_op op_add (pe_op op_mul (pe_ix (u_ix (K := K) rfl) (pv 0) pe_int (fun _ _ => rfl)) pe_int) (pe_op op_mul (pe_op op_mul (pe_ix (u_ix (K := K) rfl) (pv 0) pe_int (fun _ _ => rfl)) (pe_ix (u_ix (K := K) rfl) (pv 0) pe_int (fun _ _ => rfl))) pe_int)) pe_int) pe_int) (pg_sub (pv 0) pe_int set_list))
 (pss_cons (ps_set (i := 3) sc_l_digit.nd rfl (by first | exact Or.inl rfl | exact Or.inr rfl) (pe_op op_mod (pe_op op_mul (pe_ix (u_ix (K := K) rfl) (pv 0) pe_int (fun _ _ => rfl)) (pe_ix (u_ix (K := K) rfl) (pv 0) pe_int (fun _ _ => rfl))) pe_int))
 (pss_one (ps_ret (pe_op op_mod (pe_op op_fdiv (pe_op op_mod (pe_op op_mul (pv 3) (pe_op op_add (pe_op op_mod (pv 3) pe_int) pe_int)) pe_int) pe_int) (pv 1)))))))), ?_⟩
    walk_at "begin"
    refine ite2 (fun h0 => ?_) (fun h0 => ?_)
    · walk_at "go"
      refine k _ _ .upd ⟨_, _, _, upd_same, ?_, hb0, hb1, hc0, by omega⟩ ?_ ?_
      · exact Int.ediv_nonneg ha (by omega)
      · exact Int.emod_nonneg _ (by omega)
      · exact Int.emod_lt_of_pos _ hm0
    · walk_at "go"
      rw [upd_upd]
      refine k _ _ .upd ⟨_, _, _, upd_same, ha, Int.emod_nonneg _ (by decide), Int.emod_lt_of_pos _ (by decide), by omega, by omega⟩ (Int.emod_nonneg _ (by omega)) (Int.emod_lt_of_pos _ hm0)
theorem ok_l_pot (T : Tx K mg) : FO P w K mg base 1 ("_law_pot", none) pr_l_pot (spPot K) := by
  refine ok0 T.f_l_pot.fn sc_l_pot (fun vs H Q E h => ?_) (fun cdv A outer s H vs Q E hr h => ?_)
  · obtain ⟨p, m, n, rfl, _⟩ := h
    rfl
  · obtain ⟨a, ns, k, rfl, hl, hz, hk0, hk1, q⟩ := h
    refine ⟨_, (pss_cons (ps_set (i := 2) sc_l_pot.nd rfl (by first | exact Or.inl rfl | exact Or.inr rfl) pe_int)
 (pss_cons (ps_if (pt_cmpR op_lt (pv 1) (pe_callB (u_len (K := K) rfl) (by rfl) T.n_len (by decide +kernel) (pa_cons (pv 0) pa_nil)) (nomark _))
 (pss_one (ps_set (i := 2) sc_l_pot.nd rfl (by first | exact Or.inl rfl | exact Or.inr rfl) (pe_ix (u_ix (K := K) rfl) (pv 0) (pv 1) (fun _ _ => rfl))))
 pss_nil)
 (pss_cons (ps_set (i := 3) sc_l_pot.nd rfl (by first | exact Or.inl rfl | exact Or.inr rfl) (pe_op op_mod (pe_op op_add (pe_op op_add (pe_op op_mul (pe_op op_mod (pv 2) pe_int) pe_int) (pe_op op_mul (pe_op op_mul pe_int (pv 1)) (pv 1))) pe_int) pe_int))
 (pss_one (ps_ret (pe_lst (pa_cons (pe_callB (u_max rfl) (by rfl) T.n_max (by decide +kernel) (pa_cons pe_int (pa_cons (pe_op op_sub (pv 2) (pe_op op_pow pe_int pe_int)) pa_nil))) (pa_cons (pv 3) (pa_cons pe_int pa_nil))))))))), ?_⟩
    walk_at "begin"
    refine ite2 (fun h0 => ?_) (fun h0 => ?_)
    · have h1 : k < (ns.length : Int) := by simpa using h0
      obtain ⟨c, _, _, ec⟩ := atI_map (f := V.int) hk0 h1
      walk_at "go"
      refine rd_ixLK hl ec ?_
      walk_at "go"
      refine rd_max fun m _ m0 _ => ?_
      walk_at "go"
      intro p hp
      exact q _ p (same_new hp) hp ⟨_, _, _, upd_same, m0, Int.emod_nonneg _ (by decide), Int.emod_lt_of_pos _ (by decide), by decide, by decide⟩
    · walk_at "go"
      refine rd_max fun m _ m0 _ => ?_
      walk_at "go"
      intro p hp
      exact q _ p (same_new hp) hp ⟨_, _, _, upd_same, m0, Int.emod_nonneg _ (by decide), Int.emod_lt_of_pos _ (by decide), by decide, by decide⟩
theorem ok_l_text (T : Tx K mg) : FO P w K mg base 2 ("_law_text", none) pr_l_text spText := by
  refine ok0 T.f_l_text.fn sc_l_text (fun vs H Q E h => ?_) (fun cdv A outer s H vs Q E hr h => ?_)
  · obtain ⟨p, n, rfl, _⟩ := h
    rfl
  · obtain ⟨p, n, rfl, hn, hp, k⟩ := h
    refine ⟨_, (pss_cons (ps_set (i := 1) sc_l_text.nd rfl (by first | exact Or.inl rfl | exact Or.inr rfl) pe_str)
 (pss_cons (ps_set (i := 2) sc_l_text.nd rfl (by first | exact Or.inl rfl | exact Or.inr rfl) (pe_ix (u_ix (K := K) rfl) (pe_lst (pa_cons (pe_call (ok_l_digit T) (hr.mono (by decide)) (by rfl) T.f_l_digit.mg T.f_l_digit.fn.kp T.f_l_digit.bi .nil pass0 (pa_cons (pv 0) (pa_cons pe_int pa_nil))) (pa_cons (pe_call (ok_l_digit T) (hr.mono (by decide)) (by rfl) T.f_l_digit.mg T.f_l_digit.fn.kp T.f_l_digit.bi .nil pass0 (pa_cons (pv 0) (pa_cons pe_int pa_nil))) pa_nil))) (pe_callTy u_int (by rfl) T.n_int (by decide +kernel) (pa_cons (pe_cmpR op_eq (pe_call (ok_l_digit T) (hr.mono (by decide)) (by rfl) T.f_l_digit.mg T.f_l_digit.fn.kp T.f_l_digit.bi .nil pass0 (pa_cons (pv 0) (pa_cons pe_int pa_nil))) pe_int (nomark _)) pa_nil)) (fun _ _ => rfl)))
 (pss_one (ps_ret (u_join (K := K) rfl pe_str (pe_lc (own := [("_law_k", 3)]) (by rfl) sc_l_text.nd (pi_range1 (by rfl) T.n_range (pa_cons (pv 2) pa_nil)) (blkOk_by (N := nm_l_text) (sc := defScope s_l_text) (own := [("_law_k", 3)]) (by decide +kernel)) (fun _ _ _ _ _ => (pg_name (i := 3) sc_l_text.nd rfl (by first | exact Or.inl rfl | exact Or.inr rfl))) (fun _ _ _ _ _ => pts_nil) (fun _ _ _ _ _ => (pe_ix (u_ix (K := K) rfl) (pv 1) (pe_call (ok_l_digit T) (hr.mono (by decide)) (by rfl) T.f_l_digit.mg T.f_l_digit.fn.kp T.f_l_digit.bi .nil pass0 (pa_cons (pv 0) (pa_cons pe_int pa_nil))) (fun _ _ => rfl))))))))), ?_⟩
    walk_at "begin"
    refine rd_digit (by decide) (by decide) (by omega) hp fun H1 d1 k1 p1 d10 d11 => ?_
    walk_at "go"
    refine rd_digit (by decide) (by decide) (by omega) p1 fun H2 d2 k2 p2 d20 d21 => ?_
    walk_at "go"
    intro l hl
    walk_at "go"
    have hlp := p2.ne hl
    refine rd_digit (by decide) (by decide) (by omega) (p2.mut hlp) fun H3 d3 k3 p3 d30 d31 => ?_
    walk_at "go"
    have el : H3 l = some (.lst [.int d1, .int d2]) := k3 _ _ hlp upd_same
    refine rd_pick2 el fun v hv => ?_
    obtain ⟨j, rfl, j0, j1⟩ : ∃ j : Int, v = .int j ∧ 0 ≤ j ∧ j ≤ 40 := by
      rcases hv with ⟨_, rfl⟩ | ⟨_, rfl⟩
      · exact ⟨_, rfl, d10, by omega⟩
      · exact ⟨_, rfl, d20, by omega⟩
    walk_at "go"
    refine rd_rngJ (by omega) (by omega) ?_
    have K3 : Keep p H H3 := k1.trans (k2.trans ((Keep.same (same_new hl)).trans k3))
    refine lc_R (fun D i G => ∃ cs : List Nat, cs.length = i ∧ (∀ c ∈ cs, Sign c) ∧ G D = some (.lst (cs.map oneSign)) ∧ PotAt (n + 3 + i) G p ∧ Keep p H G) (fun D hD => ?_) ?_ ?_
    · have hDp := p3.ne hD
      exact ⟨[], rfl, by simp, upd_same, (p3.mut hDp).mono (by omega), K3.mut (K3.back hDp hD)⟩
    · rintro D i G hD hi ⟨cs, hc, hs, eD, hp', hK⟩
      have hDp := p3.ne hD
      walk_at "go"
      refine ⟨rfl, ?_⟩
      walk_at "go"
      refine rd_digit (by decide) (by decide) (by omega) hp' fun H4 d4 k4 p4 d40 d41 => ?_
      obtain ⟨c, ec, sc⟩ := signs94_at d40 d41
      refine rd_ixS (by decide +kernel) ec ?_
      refine ⟨_, k4 _ _ hDp eD, ?_, ?_⟩
      · rw [List.length_map]
        exact Nat.lt_of_lt_of_le (show cs.length < 1000 by omega) (by decide)
      · refine ⟨cs ++ [c], by simp [hc], ?_, ?_, (p4.mut hDp).mono (by omega), (hK.trans k4).mut (K3.back hDp hD)⟩
        · intro x hx
          rcases List.mem_append.mp hx with h | h
          · exact hs x h
          · rw [List.mem_singleton.mp h]
            exact sc
        · rw [upd_same, List.map_append]
          rfl
    · rintro D G hD ⟨cs, hc, hs, eD, hp', hK⟩
      refine rd_joinSigns eD (by omega) ?_
      exact k _ _ hK (hp'.mono (by omega)) ⟨by rw [lenSg]; omega, by simpa using hs⟩
theorem ok_FaultError_init (T : Tx K mg) : FO P w K mg base 1 ("FaultError", some "__init__") pr_FaultError_init (spFInit K) := by
  refine ok0 T.m_FaultError_init.fn sc_FaultError_init (fun vs H Q E h => ?_) (fun cdv A outer s H vs Q E hr h => ?_)
  · obtain ⟨a, C, v, rfl, _⟩ := h
    rfl
  · obtain ⟨a, C, v, rfl, hC, ha, q⟩ := h
    refine ⟨_, (pss_one (ps_expr (u_veinit (K := K) rfl (by rfl) T.n_ValueError T.vi (pa_cons (pv 0) (pa_cons (pv 1) pa_nil))))), ?_⟩
    walk_at "begin"
    refine rd_vei ?_
    walk_at "go"
    exact ⟨a, C, _, rfl, by simp, hC, ha, q⟩
end

set_option Elab.async false
set_option linter.all false
set_option maxRecDepth 100000
set_option maxHeartbeats 4000000
def nine : List Str := ["NoKind", "NoText", "NoFault", "Empty", "NoWay", "NoTest", "NoProgram", "NoBody", "NoRow"]
def nm9 (n : Nat) : Str := nine.getD n ""
/-- the nine classes, as unlike ones -/
structure Nine (K : PySem.W.Frag) : Prop where
  x : ∀ n, n < 9 → ExcX K (nm9 n)
  k : ∀ n m, n < 9 → m < 9 → PySem.W.kitOne K (.ref (He.ga K (nm9 n))) (.ref (He.ga K (nm9 m))) = some (decide (m = n))
  ev : ∀ n, n < 9 → PySem.W.exmAny K (.ref (He.ga K (nm9 n))) [.ref (He.ga K "NoKind"), .ref (He.ga K "NoFault"), .ref (He.ga K "NoWay"), .ref (He.ga K "NoProgram"), .ref (He.ga K "NoRow")] = some (decide (n % 2 = 0))
  od : ∀ n, n < 9 → PySem.W.exmAny K (.ref (He.ga K (nm9 n))) [.ref (He.ga K "NoText"), .ref (He.ga K "Empty"), .ref (He.ga K "NoTest"), .ref (He.ga K "NoBody")] = some (decide (n % 2 = 1))
def bools (n : Nat) : List Bool := (List.range 9).map fun j => decide (j = n)
def spSorts (K : PySem.W.Frag) : SpE := fun D H Q => ∃ n, n < 9 ∧ D = He.ga K (nm9 n) ∧ ∀ (H' : Hp) (p : Addr), Same H H' → H p = none → H' p = some (.lst ((bools n).map V.bl)) → Q (.ref p) H'
def spRaised (K : PySem.W.Frag) : Sp := fun vs H _ E => ∃ (n : Nat) (v : V), n < 9 ∧ vs = [.int n, v] ∧ E (.ref (He.ga K (nm9 n))) none H
section
variable {P : Program} {w : World} {K : PySem.W.Frag} {mg : Str → Option Value} {base : Heap}
theorem is_one {n m : Nat} {H : Hp} {Q : VK} {p : Addr × Obj} (N9 : Nine K) (hn : n < 9) (hm : m < 9) (px : PinX K (He.ga K (nm9 n)) p) (q : Q (.bl (decide (m = n))) H) : rIsP K p [.ref p.1, .ref (He.ga K (nm9 m))] H Q :=
  ⟨_, _, _, _, px, rfl, .own _, N9.k n m hn hm, q⟩
theorem ok_l_sorts (T : Tx K mg) (N9 : Nine K) : FnE P w K mg base 1 (He.fAd K ("_law_sorts", none)) (spSorts K) := by
  refine fnE_of T.f_l_sorts.fn sc_l_sorts T.f_l_sorts.bi fun cdv A outer s H Q D p hr px h => ?_
  obtain ⟨n, hn, rfl, k⟩ := h
  refine ⟨_, (pss_cons (ps_set (i := 1) sc_l_sorts.nd rfl (by first | exact Or.inl rfl | exact Or.inr rfl) (pe_lst (pa_cons (pe_callB (is_pin (K := K) rfl (List.mem_cons_self ..)) (by rfl) T.n_isinstance (by decide +kernel) (pa_cons (pv 0) (pa_cons (pe_glob (v := .ref (He.ga K "NoKind")) rfl T.k_NoKind rfl) pa_nil))) (pa_cons (pe_callB (is_pin (K := K) rfl (List.mem_cons_self ..)) (by rfl) T.n_isinstance (by decide +kernel) (pa_cons (pv 0) (pa_cons (pe_glob (v := .ref (He.ga K "NoText")) rfl T.k_NoText rfl) pa_nil))) (pa_cons (pe_callB (is_pin (K := K) rfl (List.mem_cons_self ..)) (by rfl) T.n_isinstance (by decide +kernel) (pa_cons (pv 0) (pa_cons (pe_glob (v := .ref (He.ga K "NoFault")) rfl T.k_NoFault rfl) pa_nil))) (pa_cons (pe_callB (is_pin (K := K) rfl (List.mem_cons_self ..)) (by rfl) T.n_isinstance (by decide +kernel) (pa_cons (pv 0) (pa_cons (pe_glob (v := .ref (He.ga K "Empty")) rfl T.k_Empty rfl) pa_nil))) pa_nil))))))
 (pss_cons (ps_set (i := 1) sc_l_sorts.nd rfl (by first | exact Or.inl rfl | exact Or.inr rfl) (pe_op op_cat (pv 1) (pe_lst (pa_cons (pe_callB (is_pin (K := K) rfl (List.mem_cons_self ..)) (by rfl) T.n_isinstance (by decide +kernel) (pa_cons (pv 0) (pa_cons (pe_glob (v := .ref (He.ga K "NoWay")) rfl T.k_NoWay rfl) pa_nil))) (pa_cons (pe_callB (is_pin (K := K) rfl (List.mem_cons_self ..)) (by rfl) T.n_isinstance (by decide +kernel) (pa_cons (pv 0) (pa_cons (pe_glob (v := .ref (He.ga K "NoTest")) rfl T.k_NoTest rfl) pa_nil))) (pa_cons (pe_callB (is_pin (K := K) rfl (List.mem_cons_self ..)) (by rfl) T.n_isinstance (by decide +kernel) (pa_cons (pv 0) (pa_cons (pe_glob (v := .ref (He.ga K "NoProgram")) rfl T.k_NoProgram rfl) pa_nil))) (pa_cons (pe_callB (is_pin (K := K) rfl (List.mem_cons_self ..)) (by rfl) T.n_isinstance (by decide +kernel) (pa_cons (pv 0) (pa_cons (pe_glob (v := .ref (He.ga K "NoBody")) rfl T.k_NoBody rfl) pa_nil))) pa_nil)))))))
 (pss_one (ps_ret (pe_op op_cat (pv 1) (pe_lst (pa_cons (pe_callB (is_pin (K := K) rfl (List.mem_cons_self ..)) (by rfl) T.n_isinstance (by decide +kernel) (pa_cons (pv 0) (pa_cons (pe_glob (v := .ref (He.ga K "NoRow")) rfl T.k_NoRow rfl) pa_nil))) pa_nil))))))), ?_⟩
  walk_at "begin"
  refine is_one (m := 0) N9 hn (by decide) px ?_
  walk_at "go"
  refine is_one (m := 1) N9 hn (by decide) px ?_
  walk_at "go"
  refine is_one (m := 2) N9 hn (by decide) px ?_
  walk_at "go"
  refine is_one (m := 3) N9 hn (by decide) px ?_
  walk_at "go"
  intro l1 h1
  walk_at "go"
  refine is_one (m := 4) N9 hn (by decide) px ?_
  walk_at "go"
  refine is_one (m := 5) N9 hn (by decide) px ?_
  walk_at "go"
  refine is_one (m := 6) N9 hn (by decide) px ?_
  walk_at "go"
  refine is_one (m := 7) N9 hn (by decide) px ?_
  walk_at "go"
  intro l2 h2
  walk_at "go"
  intro l3 h3
  walk_at "go"
  refine is_one (m := 8) N9 hn (by decide) px ?_
  walk_at "go"
  intro l4 h4
  walk_at "go"
  intro l5 h5
  refine k _ l5 (by walk_at "same") (Same.free (by walk_at "same") h5) upd_same
theorem ok_l_raised (T : Tx K mg) (N9 : Nine K) : FnOk P w K mg base (L2.CX P w) 3 (He.fAd K ("_law_raised", none)) (fdOf K ("_law_raised", none)) pr_l_raised (spRaised K) := by
  refine FunD.ok T.f_l_raised.fn sc_l_raised (fun vs H Q E h => ?_) (fun cdv A outer s H vs Q E hr h => ?_)
  · obtain ⟨n, v, _, rfl, _⟩ := h
    rfl
  · obtain ⟨n, v, hn, rfl, e⟩ := h
    refine ⟨_, (pss_cons (ps_if (pt_cmpR op_eq (pv 0) pe_int (nomark _))
 (pss_one (ps_raise rfl (takes_of rfl rfl rfl rfl) (pmk_fault (T.x_NoKind).o (T.x_NoKind).i (T.x_NoKind).ty (ok_FaultError_init T) (hr.mono (by decide)) T.m_FaultError_init.bi (by rfl) T.k_NoKind (pv 1))))
 pss_nil)
 (pss_cons (ps_if (pt_cmpR op_eq (pv 0) pe_int (nomark _))
 (pss_one (ps_raise rfl (takes_of rfl rfl rfl rfl) (pmk_fault (T.x_NoText).o (T.x_NoText).i (T.x_NoText).ty (ok_FaultError_init T) (hr.mono (by decide)) T.m_FaultError_init.bi (by rfl) T.k_NoText (pv 1))))
 pss_nil)
 (pss_cons (ps_if (pt_cmpR op_eq (pv 0) pe_int (nomark _))
 (pss_one (ps_raise rfl (takes_of rfl rfl rfl rfl) (pmk_fault (T.x_NoFault).o (T.x_NoFault).i (T.x_NoFault).ty (ok_FaultError_init T) (hr.mono (by decide)) T.m_FaultError_init.bi (by rfl) T.k_NoFault (pv 1))))
 pss_nil)
 (pss_cons (ps_if (pt_cmpR op_eq (pv 0) pe_int (nomark _))
 (pss_one (ps_raise rfl (takes_of rfl rfl rfl rfl) (pmk_fault (T.x_Empty).o (T.x_Empty).i (T.x_Empty).ty (ok_FaultError_init T) (hr.mono (by decide)) T.m_FaultError_init.bi (by rfl) T.k_Empty (pv 1))))
 pss_nil)
 (pss_cons (ps_if (pt_cmpR op_eq (pv 0) pe_int (nomark _))
 (pss_one (ps_raise rfl (takes_of rfl rfl rfl rfl) (pmk_fault (T.x_NoWay).o (T.x_NoWay).i (T.x_NoWay).ty (ok_FaultError_init T) (hr.mono (by decide)) T.m_FaultError_init.bi (by rfl) T.k_NoWay (pv 1))))
 pss_nil)
 (pss_cons (ps_if (pt_cmpR op_eq (pv 0) pe_int (nomark _))
 (pss_one (ps_raise rfl (takes_of rfl rfl rfl rfl) (pmk_fault (T.x_NoTest).o (T.x_NoTest).i (T.x_NoTest).ty (ok_FaultError_init T) (hr.mono (by decide)) T.m_FaultError_init.bi (by rfl) T.k_NoTest (pv 1))))
 pss_nil)
 (pss_cons (ps_if (pt_cmpR op_eq (pv 0) pe_int (nomark _))
 (pss_one (ps_raise rfl (takes_of rfl rfl rfl rfl) (pmk_fault (T.x_NoProgram).o (T.x_NoProgram).i (T.x_NoProgram).ty (ok_FaultError_init T) (hr.mono (by decide)) T.m_FaultError_init.bi (by rfl) T.k_NoProgram (pv 1))))
 pss_nil)
 (pss_cons (ps_if (pt_cmpR op_eq (pv 0) pe_int (nomark _))
 (pss_one (ps_raise rfl (takes_of rfl rfl rfl rfl) (pmk_fault (T.x_NoBody).o (T.x_NoBody).i (T.x_NoBody).ty (ok_FaultError_init T) (hr.mono (by decide)) T.m_FaultError_init.bi (by rfl) T.k_NoBody (pv 1))))
 pss_nil)
 (pss_one (ps_raise rfl (takes_of rfl rfl rfl rfl) (pmk_fault (T.x_NoRow).o (T.x_NoRow).i (T.x_NoRow).ty (ok_FaultError_init T) (hr.mono (by decide)) T.m_FaultError_init.bi (by rfl) T.k_NoRow (pv 1)))))))))))), ?_⟩
    walk_at "begin"
    have nx : ∀ m : Nat, ¬ n = m → ¬ decide (V.int (n : Int) = V.int (m : Int)) = true := fun m hm z => hm (by have z2 := V.int.inj (of_decide_eq_true z); omega)
    have ye : ∀ m : Nat, decide (V.int (n : Int) = V.int (m : Int)) = true → n = m := fun m z => by have z2 := V.int.inj (of_decide_eq_true z); omega
    refine ite2 (fun z => ?_) (fun z => ?_)
    · have e1 := ye 0 z
      subst e1
      exact ⟨v, rfl, ⟨_, rfl⟩, e⟩
    walk_at "go"
    refine ite2 (fun z => ?_) (fun z => ?_)
    · have e1 := ye 1 z
      subst e1
      exact ⟨v, rfl, ⟨_, rfl⟩, e⟩
    walk_at "go"
    refine ite2 (fun z => ?_) (fun z => ?_)
    · have e1 := ye 2 z
      subst e1
      exact ⟨v, rfl, ⟨_, rfl⟩, e⟩
    walk_at "go"
    refine ite2 (fun z => ?_) (fun z => ?_)
    · have e1 := ye 3 z
      subst e1
      exact ⟨v, rfl, ⟨_, rfl⟩, e⟩
    walk_at "go"
    refine ite2 (fun z => ?_) (fun z => ?_)
    · have e1 := ye 4 z
      subst e1
      exact ⟨v, rfl, ⟨_, rfl⟩, e⟩
    walk_at "go"
    refine ite2 (fun z => ?_) (fun z => ?_)
    · have e1 := ye 5 z
      subst e1
      exact ⟨v, rfl, ⟨_, rfl⟩, e⟩
    walk_at "go"
    refine ite2 (fun z => ?_) (fun z => ?_)
    · have e1 := ye 6 z
      subst e1
      exact ⟨v, rfl, ⟨_, rfl⟩, e⟩
    walk_at "go"
    refine ite2 (fun z => ?_) (fun z => ?_)
    · have e1 := ye 7 z
      subst e1
      exact ⟨v, rfl, ⟨_, rfl⟩, e⟩
    walk_at "go"
    have e8 : n = 8 := by
      have q0 := fun h => nx 0 h
      rcases (show n = 0 ∨ n = 1 ∨ n = 2 ∨ n = 3 ∨ n = 4 ∨ n = 5 ∨ n = 6 ∨ n = 7 ∨ n = 8 by omega) with h | h | h | h | h | h | h | h | h
      all_goals first
        | exact h
        | (subst h; simp_all)
    subst e8
    exact ⟨v, rfl, ⟨_, rfl⟩, e⟩
def spCaught : Sp := fun vs H Q _ => ∃ (n : Nat) (v : V), n < 9 ∧ vs = [.int n, v] ∧ ∀ (H' : Hp) (p : Addr), Same H H' → H p = none → H' p = some (.lst ((bools n ++ [true]).map V.bl)) → Q (.ref p) H'
theorem ok_l_caught (T : Tx K mg) (N9 : Nine K) : FO P w K mg base 5 ("_law_caught", none) pr_l_caught spCaught := by
  refine ok0 T.f_l_caught.fn sc_l_caught (fun vs H Q E h => ?_) (fun cdv A outer s H vs Q E hr h => ?_)
  · obtain ⟨n, v, _, rfl, _⟩ := h
    rfl
  · obtain ⟨n, v, hn, rfl, k⟩ := h
    refine ⟨_, (pss_cons (ps_set (i := 2) sc_l_caught.nd rfl (by first | exact Or.inl rfl | exact Or.inr rfl) (pe_lst pa_nil))
 (pss_cons (ps_try_as (i := 3) rfl rfl sc_l_caught.nd rfl rfl ⟨by rfl, by decide, .inl T.k_FaultError⟩ takes0 (fun W pn xe tk po => (pss_one (ps_expr (pe_callS (ok_l_raised T N9) (hr.mono (by decide)) (by rfl) T.f_l_raised.mg T.f_l_raised.fn.kp T.f_l_raised.bi (fun σ => passAt tk σ) (pa_cons (pv 0) (pa_cons (pv 1) pa_nil))))))
 (fun a oe cls dx pn hz hf => (pss_one (ps_set (i := 2) sc_l_caught.nd rfl (by first | exact Or.inl rfl | exact Or.inr rfl) (pe_op op_cat (pe_callS1 (K := K) rfl hz hf (ok_l_sorts T N9) (roomS hr (by decide)) (by rfl) T.f_l_sorts.mg T.f_l_sorts.fn.kp (pv 3)) (pe_lst (pa_cons (pe_callB (is_s (K := K) rfl hz hf) (by rfl) T.n_isinstance (by decide +kernel) (pa_cons (pv 3) (pa_cons (pe_bltn (v := .ty "ValueError") (by rfl) T.n_ValueError (by decide +kernel) rfl) pa_nil))) pa_nil)))))))
 (pss_one (ps_ret (pv 2))))), ?_⟩
    walk_at "begin"
    intro l hl
    walk_at "go"
    have X := N9.x n hn
    refine ⟨n, v, hn, rfl, true, X.fe, fun _ a ha => ?_, fun z => nomatch z⟩
    walk_at "go"
    refine rd_cs1 X.e ⟨n, hn, rfl, fun H1 p s1 hp e1 => ?_⟩
    walk_at "go"
    refine rd_isS X.e (.ty _) X.ve ?_
    walk_at "go"
    intro l2 hl2
    walk_at "go"
    refine rd_cat (upd_old hl2 e1) upd_same (by simp [bools]) fun l3 hl3 => ?_
    walk_at "go"
    have S0 : Same H H1 := Same.trans (same_new hl) s1
    refine k _ l3 (by walk_at "same") (Same.free (by walk_at "same") hl3) ?_
    rw [upd_same, List.map_append]
    rfl
def spOwn : Sp := fun vs H Q _ => ∃ (n : Nat) (v : V), n < 9 ∧ vs = [.int n, v] ∧ ∀ (H' : Hp), Same H H' → Q (.str (if n % 2 = 0 then "even" else "odd")) H'
theorem ok_l_by_own (T : Tx K mg) (N9 : Nine K) : FO P w K mg base 5 ("_law_by_own", none) pr_l_by_own spOwn := by
  refine ok0 T.f_l_by_own.fn sc_l_by_own (fun vs H Q E h => ?_) (fun cdv A outer s H vs Q E hr h => ?_)
  · obtain ⟨n, v, _, rfl, _⟩ := h
    rfl
  · obtain ⟨n, v, hn, rfl, k⟩ := h
    refine ⟨_, (pss_cons (ps_set (i := 2) sc_l_by_own.nd rfl (by first | exact Or.inl rfl | exact Or.inr rfl) pe_str)
 (pss_cons (ps_try_tups rfl rfl takes0 (fun W pn xe tk po => (pss_one (ps_expr (pe_callS (ok_l_raised T N9) (hr.mono (by decide)) (by rfl) T.f_l_raised.mg T.f_l_raised.fn.kp T.f_l_raised.bi (fun σ => passAt tk σ) (pa_cons (pv 0) (pa_cons (pv 1) pa_nil))))))
 (HdT.cons (NmsX.cons ⟨by rfl, by decide, .inl T.k_NoKind⟩ (NmsX.cons ⟨by rfl, by decide, .inl T.k_NoFault⟩ (NmsX.cons ⟨by rfl, by decide, .inl T.k_NoWay⟩ (NmsX.cons ⟨by rfl, by decide, .inl T.k_NoProgram⟩ (NmsX.cons ⟨by rfl, by decide, .inl T.k_NoRow⟩ NmsX.nil))))) tupM5 (by simp) (fun a oe cls dx pn hz hf => (pss_one (ps_set (i := 2) sc_l_by_own.nd rfl (by first | exact Or.inl rfl | exact Or.inr rfl) pe_str)))
 (HdT.cons (NmsX.cons ⟨by rfl, by decide, .inl T.k_NoText⟩ (NmsX.cons ⟨by rfl, by decide, .inl T.k_Empty⟩ (NmsX.cons ⟨by rfl, by decide, .inl T.k_NoTest⟩ (NmsX.cons ⟨by rfl, by decide, .inl T.k_NoBody⟩ NmsX.nil)))) tupM4 (by simp) (fun a oe cls dx pn hz hf => (pss_one (ps_set (i := 2) sc_l_by_own.nd rfl (by first | exact Or.inl rfl | exact Or.inr rfl) pe_str)))
 HdT.nil)))
 (pss_one (ps_ret (pv 2))))), ?_⟩
    walk_at "begin"
    refine ⟨n, v, hn, rfl, _, N9.ev n hn, fun b a ha => ?_, fun b => ⟨_, N9.od n hn, fun c a ha => ?_, fun c => ?_⟩⟩
    · have e0 : n % 2 = 0 := of_decide_eq_true b
      walk_at "go"
      have z := k H (Same.refl _)
      rw [if_pos e0] at z
      exact z
    · have e1 : n % 2 = 1 := of_decide_eq_true c
      walk_at "go"
      have z := k H (Same.refl _)
      rw [if_neg (by omega)] at z
      exact z
    · have e1 := of_decide_eq_false b
      have e2 := of_decide_eq_false c
      omega
def spLaw (K : PySem.W.Frag) : Sp := fun vs H Q _ => ∃ (a : Addr) (ns : List Int), vs = [.ref a] ∧ SqL K H a (ns.map V.int) ∧ ns.length ≤ 63 ∧ ∀ H', Q (.bl true) H'
theorem ok_law (T : Tx K mg) (N9 : Nine K) : FO P w K mg base 6 ("law", none) pr_law (spLaw K) := by
  refine ok0 T.f_law.fn sc_law (fun vs H Q E h => ?_) (fun cdv A outer s H vs Q E hr h => ?_)
  · obtain ⟨a, ns, rfl, _⟩ := h
    rfl
  · obtain ⟨a, ns, rfl, hl, hz, k⟩ := h
    refine ⟨_, (pss_cons (ps_set (i := 1) sc_law.nd rfl (by first | exact Or.inl rfl | exact Or.inr rfl) (pe_call (ok_l_text T) (hr.mono (by decide)) (by rfl) T.f_l_text.mg T.f_l_text.fn.kp T.f_l_text.bi .nil pass0 (pa_cons (pe_call (ok_l_pot T) (hr.mono (by decide)) (by rfl) T.f_l_pot.mg T.f_l_pot.fn.kp T.f_l_pot.bi .nil pass0 (pa_cons (pv 0) (pa_cons pe_int pa_nil))) pa_nil)))
 (pss_cons (ps_for PassesOwn.never (by rfl) (pi_range1 (by rfl) T.n_range (pa_cons pe_int pa_nil)) (pg_name (i := 2) sc_law.nd rfl (by first | exact Or.inl rfl | exact Or.inr rfl))
 (pss_cons (ps_if (pt_cmpR (u_neD (K := K) rfl hr.units) (pe_call (ok_l_caught T N9) (hr.mono (by decide)) (by rfl) T.f_l_caught.mg T.f_l_caught.fn.kp T.f_l_caught.bi .nil pass0 (pa_cons (pv 2) (pa_cons (pv 1) pa_nil))) (pe_op op_cat (pe_lc (own := [("_law_k", 3)]) (by rfl) sc_law.nd (pi_range1 (by rfl) T.n_range (pa_cons pe_int pa_nil)) (blkOk_by (N := nm_law) (sc := defScope s_law) (own := [("_law_k", 3)]) (by decide +kernel)) (fun _ _ _ _ _ => (pg_name (i := 3) sc_law.nd rfl (by first | exact Or.inl rfl | exact Or.inr rfl))) (fun _ _ _ _ _ => pts_nil) (fun _ _ _ _ _ => (pe_cmpR op_eq (pv 3) (pv 2) (nomark _)))) (pe_lst (pa_cons pe_bl pa_nil))) (nomark _))
 (pss_one (ps_ret pe_bl))
 pss_nil)
 (pss_one (ps_if (pt_cmpR op_ne (pe_call (ok_l_by_own T N9) (hr.mono (by decide)) (by rfl) T.f_l_by_own.mg T.f_l_by_own.fn.kp T.f_l_by_own.bi .nil pass0 (pa_cons (pv 2) (pa_cons (pv 1) pa_nil))) (pe_ix (u_ix (K := K) rfl) (pe_lst (pa_cons pe_str (pa_cons pe_str pa_nil))) (pe_op op_mod (pv 2) pe_int) (fun _ _ => rfl)) (nomark _))
 (pss_one (ps_ret pe_bl))
 pss_nil))))
 (pss_one (ps_ret pe_bl)))), ?_⟩
    walk_at "begin"
    refine ⟨a, ns, 0, rfl, hl, hz, by decide, by decide, fun H1 p s1 hp pp => ?_⟩
    walk_at "go"
    refine ⟨p, 0, rfl, by decide, pp, fun H2 z k2 p2 tz => ?_⟩
    walk_at "go"
    refine rd_rngJ (by decide) (by decide) ?_
    refine for_R (fun i σ G => ∃ v u : Option V, σ = [some (.ref a), some (.str z), v, u]) ⟨_, _, rfl⟩ ?_ ?_
    · rintro i σ G hi ⟨v, u, rfl⟩
      replace hi : i < 9 := hi
      rw [Int.zero_add]
      walk_at "go"
      refine ⟨i, .str z, hi, rfl, fun H3 pc s3 hpc e3 => ?_⟩
      walk_at "go"
      refine rd_rngJ (by decide) (by decide) ?_
      refine lc_R (fun D j G' => G' D = some (.lst (((List.range j).map fun m => decide (m = i)).map V.bl)) ∧ Same H3 G') (fun D hD => ⟨upd_same, same_new hD⟩) ?_ ?_
      · rintro D j G' hD hj ⟨eD, sD⟩
        replace hj : j < 9 := hj
        rw [Int.zero_add]
        walk_at "go"
        refine ⟨rfl, ?_⟩
        walk_at "go"
        refine ⟨_, eD, ?_, ?_, same_mut sD hD⟩
        · simp
          exact Nat.lt_of_lt_of_le hj (by decide)
        · rw [upd_same, List.range_succ, List.map_append, List.map_append]
          have e : decide (V.int (j : Int) = V.int (i : Int)) = decide (j = i) := by
            by_cases h : j = i
            · subst h
              simp
            · rw [decide_eq_false h, decide_eq_false (fun q => h (by have q2 := V.int.inj q; omega))]
          rw [e]
          rfl
      · rintro D G' hD ⟨eD, sD⟩
        replace eD : G' D = some (.lst ((bools i).map V.bl)) := eD
        walk_at "go"
        intro l hl2
        walk_at "go"
        refine rd_cat (upd_old hl2 eD) upd_same (by simp [bools]) fun l3 hl3 => ?_
        walk_at "go"
        have sh : SeqAt.shaped (.list ((bools i ++ [true]).map PyData.bool)) = true := by
          refine shaped_list (fun d hd => ?_) (fun d hd => ?_) <;>
            (obtain ⟨b, _, rfl⟩ := List.mem_map.mp hd)
          · rfl
          · exact Nat.zero_le _
        have e9 : (bools i).map V.bl ++ [V.bl true] = (bools i ++ [true]).map V.bl := by
          rw [List.map_append]
          rfl
        refine rd_neD (.lst (.inl (.inl (upd_old hl3 (upd_old hl2 (sD _ _ e3))))) (dp_bools _)) (.lst (.inl (.inl (by rw [upd_same, e9]))) (dp_bools _)) sh sh ?_
        rw [SeqAt.eqv_refl _ (SeqAt.canLay_of_shaped sh)]
        walk_at "go"
        refine ⟨i, .str z, hi, rfl, fun H4 s4 => ?_⟩
        walk_at "go"
        intro l4 hl4
        walk_at "go"
        have e2 : ((i : Int) % 2 = 0 ∧ i % 2 = 0) ∨ ((i : Int) % 2 = 1 ∧ ¬ i % 2 = 0) := by omega
        rcases e2 with ⟨e2, e3⟩ | ⟨e2, e3⟩
        · rw [e2, if_pos e3]
          walk_at "go"
          exact ⟨_, _, rfl⟩
        · rw [e2, if_neg e3]
          walk_at "go"
          exact ⟨_, _, rfl⟩
    · rintro σ G ⟨v, u, rfl⟩
      walk_at "go"
      exact k _
end

set_option Elab.async false
set_option linter.all false
set_option maxRecDepth 100000
set_option maxHeartbeats 0
def nineB (K : PySem.W.Frag) : Bool := (List.range 9).all fun n => excXB K (nm9 n) && ((List.range 9).all (fun m => decide (PySem.W.kitOne K (.ref (He.ga K (nm9 n))) (.ref (He.ga K (nm9 m))) = some (decide (m = n)))) &&
  (decide (PySem.W.exmAny K (.ref (He.ga K (nm9 n))) [.ref (He.ga K "NoKind"), .ref (He.ga K "NoFault"), .ref (He.ga K "NoWay"), .ref (He.ga K "NoProgram"), .ref (He.ga K "NoRow")] = some (decide (n % 2 = 0))) &&
  decide (PySem.W.exmAny K (.ref (He.ga K (nm9 n))) [.ref (He.ga K "NoText"), .ref (He.ga K "Empty"), .ref (He.ga K "NoTest"), .ref (He.ga K "NoBody")] = some (decide (n % 2 = 1)))))
theorem nine_of {K : PySem.W.Frag} (h : nineB K = true) : Nine K := by
  have a : ∀ n, n < 9 → _ := fun n hn => List.all_eq_true.mp h n (List.mem_range.mpr hn)
  refine ⟨fun n hn => excXB_ok (He.ba (a n hn)).1, fun n m hn hm => ?_, fun n hn => ?_, fun n hn => ?_⟩
  · exact of_decide_eq_true (List.all_eq_true.mp (He.ba (He.ba (a n hn)).2).1 m (List.mem_range.mpr hm))
  · exact of_decide_eq_true (He.ba (He.ba (He.ba (a n hn)).2).2).1
  · exact of_decide_eq_true (He.ba (He.ba (He.ba (a n hn)).2).2).2
def fa : List He.Fa := [.meth "FaultError" "__init__", .glo "_law_pot", .glo "_law_digit", .glo "_law_text", .glo "_law_sorts", .glo "_law_raised", .glo "_law_caught", .glo "_law_by_own", .glo "law", .free "ValueError", .free "int", .free "isinstance", .free "len", .free "max", .free "range", .glo "FaultError", .glo "NoKind", .glo "NoText", .glo "NoFault", .glo "Empty", .glo "NoWay", .glo "NoTest", .glo "NoProgram", .glo "NoBody", .glo "NoRow"]
def fn : List He.DefD := [dd ("FaultError", some "__init__") "__init__" "FaultError.__init__" s_FaultError_init, dd ("_law_pot", none) "_law_pot" "_law_pot" s_l_pot, dd ("_law_digit", none) "_law_digit" "_law_digit" s_l_digit, dd ("_law_text", none) "_law_text" "_law_text" s_l_text, dd ("_law_sorts", none) "_law_sorts" "_law_sorts" s_l_sorts, dd ("_law_raised", none) "_law_raised" "_law_raised" s_l_raised, dd ("_law_caught", none) "_law_caught" "_law_caught" s_l_caught, dd ("_law_by_own", none) "_law_by_own" "_law_by_own" s_l_by_own, dd ("law", none) "law" "law" s_law]
def exs (K : PySem.W.Frag) : List Bool := [viB K, excXB K "FaultError", excXB K "NoKind", excXB K "NoText", excXB K "NoFault", excXB K "Empty", excXB K "NoWay", excXB K "NoTest", excXB K "NoProgram", excXB K "NoBody", excXB K "NoRow"]
def exB (K : PySem.W.Frag) : Bool := (exs K).all id && (nineB) K
def lo0 : List Str := ["FaultError", "NoKind", "NoText", "NoFault", "Empty", "NoWay", "NoTest", "NoProgram", "NoBody", "NoRow", "_law_pot", "_law_digit", "_law_text", "_law_sorts", "_law_raised", "_law_caught", "_law_by_own"]
def loose : List Str := lo0
abbrev R : PySem.W.OpenRow := PySem.W.OpenLaw.row PySem.Challenge.rw_faultsheaves_k18_refusals_by_class
abbrev hk : PySem.W.Hook := He.hookX 6 fa fn [] [] exB
def ob (s : PySem.W.SharedT) : He.AlX := He.obsX 6 fa fn [] [] exB (HandSHeadRun.getT s)
theorem ob_eq (s : PySem.W.SharedT) : ob s = hk.obs s.abs := He.obsX_eq (HandSHeadRun.getT_eq s)
theorem run (w : World) : HandSHeadRun.RunEq R (PySem.W.view R.prog [19]) hk ob 40000 loose w := by
  intro os
  kernel_rfl
theorem tx_of {K : PySem.W.Frag} {h : Heap} {mg : Str → Option Value} (X : K.In h) (G : h.Ns mainGlobals mg) (c : He.SaysD fa fn K) (m : (exs K).all id = true) : Tx K mg := by
  have mo : ∀ (i : Nat) (b : Bool), (exs K)[i]? = some b → b = true := fun i b e => List.all_eq_true.mp m b (List.mem_of_getElem? e)
  have F0 : FD K ("FaultError", some "__init__") "__init__" "FaultError.__init__" s_FaultError_init := fd_of (c.def_ 0 (d := dd ("FaultError", some "__init__") "__init__" "FaultError.__init__" s_FaultError_init) rfl)
  have F1 : FD K ("_law_pot", none) "_law_pot" "_law_pot" s_l_pot := fd_of (c.def_ 1 (d := dd ("_law_pot", none) "_law_pot" "_law_pot" s_l_pot) rfl)
  have F2 : FD K ("_law_digit", none) "_law_digit" "_law_digit" s_l_digit := fd_of (c.def_ 2 (d := dd ("_law_digit", none) "_law_digit" "_law_digit" s_l_digit) rfl)
  have F3 : FD K ("_law_text", none) "_law_text" "_law_text" s_l_text := fd_of (c.def_ 3 (d := dd ("_law_text", none) "_law_text" "_law_text" s_l_text) rfl)
  have F4 : FD K ("_law_sorts", none) "_law_sorts" "_law_sorts" s_l_sorts := fd_of (c.def_ 4 (d := dd ("_law_sorts", none) "_law_sorts" "_law_sorts" s_l_sorts) rfl)
  have F5 : FD K ("_law_raised", none) "_law_raised" "_law_raised" s_l_raised := fd_of (c.def_ 5 (d := dd ("_law_raised", none) "_law_raised" "_law_raised" s_l_raised) rfl)
  have F6 : FD K ("_law_caught", none) "_law_caught" "_law_caught" s_l_caught := fd_of (c.def_ 6 (d := dd ("_law_caught", none) "_law_caught" "_law_caught" s_l_caught) rfl)
  have F7 : FD K ("_law_by_own", none) "_law_by_own" "_law_by_own" s_l_by_own := fd_of (c.def_ 7 (d := dd ("_law_by_own", none) "_law_by_own" "_law_by_own" s_l_by_own) rfl)
  have F8 : FD K ("law", none) "law" "law" s_law := fd_of (c.def_ 8 (d := dd ("law", none) "law" "law" s_law) rfl)
  exact ⟨⟨F0, FunD.bindsN F0 (fun _ _ _ _ _ _ us hl => match us, hl with | [_, _], _ => rfl), He.meth_ok (c.fact 0 (f := .meth "FaultError" "__init__") rfl)⟩,
  ⟨F1, FunD.bindsN F1 (fun _ _ _ _ _ _ us hl => match us, hl with | [_, _], _ => rfl), He.glo_ok X G (c.fact 1 (f := .glo "_law_pot") rfl)⟩,
  ⟨F2, FunD.bindsN F2 (fun _ _ _ _ _ _ us hl => match us, hl with | [_, _], _ => rfl), He.glo_ok X G (c.fact 2 (f := .glo "_law_digit") rfl)⟩,
  ⟨F3, FunD.bindsN F3 (fun _ _ _ _ _ _ us hl => match us, hl with | [_], _ => rfl), He.glo_ok X G (c.fact 3 (f := .glo "_law_text") rfl)⟩,
  ⟨F4, FunD.bindsN F4 (fun _ _ _ _ _ _ us hl => match us, hl with | [_], _ => rfl), He.glo_ok X G (c.fact 4 (f := .glo "_law_sorts") rfl)⟩,
  ⟨F5, FunD.bindsN F5 (fun _ _ _ _ _ _ us hl => match us, hl with | [_, _], _ => rfl), He.glo_ok X G (c.fact 5 (f := .glo "_law_raised") rfl)⟩,
  ⟨F6, FunD.bindsN F6 (fun _ _ _ _ _ _ us hl => match us, hl with | [_, _], _ => rfl), He.glo_ok X G (c.fact 6 (f := .glo "_law_caught") rfl)⟩,
  ⟨F7, FunD.bindsN F7 (fun _ _ _ _ _ _ us hl => match us, hl with | [_, _], _ => rfl), He.glo_ok X G (c.fact 7 (f := .glo "_law_by_own") rfl)⟩,
  ⟨F8, FunD.bindsN F8 (fun _ _ _ _ _ _ us hl => match us, hl with | [_], _ => rfl), He.glo_ok X G (c.fact 8 (f := .glo "law") rfl)⟩,
  He.free_ok X G (c.fact 9 (f := .free "ValueError") rfl),
  He.free_ok X G (c.fact 10 (f := .free "int") rfl),
  He.free_ok X G (c.fact 11 (f := .free "isinstance") rfl),
  He.free_ok X G (c.fact 12 (f := .free "len") rfl),
  He.free_ok X G (c.fact 13 (f := .free "max") rfl),
  He.free_ok X G (c.fact 14 (f := .free "range") rfl),
  He.glo_ok X G (c.fact 15 (f := .glo "FaultError") rfl),
  He.glo_ok X G (c.fact 16 (f := .glo "NoKind") rfl),
  He.glo_ok X G (c.fact 17 (f := .glo "NoText") rfl),
  He.glo_ok X G (c.fact 18 (f := .glo "NoFault") rfl),
  He.glo_ok X G (c.fact 19 (f := .glo "Empty") rfl),
  He.glo_ok X G (c.fact 20 (f := .glo "NoWay") rfl),
  He.glo_ok X G (c.fact 21 (f := .glo "NoTest") rfl),
  He.glo_ok X G (c.fact 22 (f := .glo "NoProgram") rfl),
  He.glo_ok X G (c.fact 23 (f := .glo "NoBody") rfl),
  He.glo_ok X G (c.fact 24 (f := .glo "NoRow") rfl),
  viB_ok (mo 0 _ rfl),
  excXB_ok (mo 1 _ rfl),
  excXB_ok (mo 2 _ rfl),
  excXB_ok (mo 3 _ rfl),
  excXB_ok (mo 4 _ rfl),
  excXB_ok (mo 5 _ rfl),
  excXB_ok (mo 6 _ rfl),
  excXB_ok (mo 7 _ rfl),
  excXB_ok (mo 8 _ rfl),
  excXB_ok (mo 9 _ rfl),
  excXB_ok (mo 10 _ rfl)⟩
end KL
open PySem PySem.W PySem.Calls PyProof.Rows
set_option maxRecDepth 100000 in
set_option maxHeartbeats 0 in
theorem PySem.Challenge.cw_faultsheaves_k18_refusals_by_class_holds : PySem.Challenge.rw_faultsheaves_k18_refusals_by_class.Holds := by
  w_on; o_law
  refine HandSHeadRun.head_any (r := OpenLaw.row PySem.Challenge.rw_faultsheaves_k18_refusals_by_class) (q := view (OpenLaw.row PySem.Challenge.rw_faultsheaves_k18_refusals_by_class).prog [19]) (H := KL.hk) (ob := KL.ob) (M := 40000) (loose := KL.loose) (d := HandSHeadRun.topDef (OpenLaw.row PySem.Challenge.rw_faultsheaves_k18_refusals_by_class).prog 19) (kwd := []) KL.ob_eq
    (by kernel_rfl) (fun s => by kernel_rfl) KL.run (by kernel_rfl) (by kernel_rfl) (by kernel_rfl) (by rfl) (by first | assumption | decide +kernel) (by decide +kernel) ⟨rfl, rfl, rfl, rfl, rfl, by decide +kernel⟩ ?hw ?hc
  case hw => w_witness2
  case hc =>
    refine L2.walk_ofE (l := PySem.Challenge.rw_faultsheaves_k18_refusals_by_class) (n := 63) (k := 6) (x := "_law_script") (CX := L2.CX0) rfl (by decide) (by kernel_rfl) ⟨rfl, by decide, by decide⟩ ?F (fun _ _ _ _ z => z)
    intro w mg fa h Y G hmg0
    obtain ⟨K, KX, c⟩ := Y
    have hmg : mg ("law" : PySem.Str) = some (.ref fa) := by
      have e : (HandSHeadRun.topDef (OpenLaw.row PySem.Challenge.rw_faultsheaves_k18_refusals_by_class).prog 19).name = ("law" : PySem.Str) := by kernel_rfl
      rw [← e]
      exact hmg0
    have cc := He.ba c.more
    have T : KL.Tx K mg := KL.tx_of KX G c.t.d cc.1
    have e := hmg.symm.trans T.f_law.mg
    cases e
    exact ⟨K, FS.fdOf K ("law", none), KL.spLaw K, KX, fun s u => L2.FunD.bindsA (ps := KL.pr_law) T.f_law.fn (fun _ _ _ _ _ _ us hl => match us, hl with | [_], _ => rfl) s [u] rfl, fun H a ns hl _ hS => ⟨a, ns, rfl, hS, hl, fun _ => rfl⟩, fun base _ _ => KL.ok_law T (KL.nine_of cc.2)⟩


