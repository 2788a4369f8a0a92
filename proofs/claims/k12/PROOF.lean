import PyProof.Rows.All
import Wide.All
import OpenK.AllK
import Wide.FinOn
import KE.KStateDown
import Lean
import HandS.ForMost
import HandS.ForExc
import HandS.More
import HandS.Defaults
import HandS.Head0
import HandS.Head1
import HandS.Head2
import HandS.HeadEnd
import HandS.HeadHook1
import HandS.HeadHook2
import HandS.HeadHook4
import HandS.ExcInit
import HandS.ExcIs
import HandS.HotCalls
import HandS.IsInst
import HandS.TryMany
import HandS.Deep
import HandS.Flow
import HandS.Codes
import HandS.Conv
import HandS.RaiseMore
import HandS.Steps
import PySem.Challenge.RW_faultsheaves_k12_faults_and_members
set_option Elab.async false
set_option linter.all false
set_option maxRecDepth 100000
set_option maxHeartbeats 4000000
namespace FS
open PySem PySem.Spec PyProof.Rows L2

/-! ### a def of the text, told by its name -/
def noFd : FuncData := PySem.W.fnOf "" "" (defArgs (.Pass ⟨0, 0, 0, 0⟩)) [] (defScope (.Pass ⟨0, 0, 0, 0⟩)) .none .none .none .none none .none .none
def fdOf (K : PySem.W.Frag) (p : Str × Option Str) : FuncData :=
  match K.lookup (He.fAd K p) with
  | some ⟨_, _, .func fd, _⟩ => fd
  | _ => noFd
abbrev FD (K : PySem.W.Frag) (p : Str × Option Str) (x q : Str) (st : Stmt) : Prop :=
  FunD K x q (defArgs st) (defBody st) (defScope st) [] [] (He.fAd K p) (fdOf K p)
theorem fd_of {K : PySem.W.Frag} {p : Str × Option Str} {x q : Str} {st : Stmt}
    (h : ∃ fd, FunD K x q (defArgs st) (defBody st) (defScope st) [] [] (He.fAd K p) fd) : FD K p x q st := by
  obtain ⟨fd, F⟩ := h
  have e : fdOf K p = fd := by
    obtain ⟨oc, od, dV, kV, doc, pm, an, cdv, ct, osl, _, lk, _⟩ := F.ex
    unfold fdOf
    rw [lk]
  show FunD _ _ _ _ _ _ _ _ _ (fdOf K p)
  rw [e]
  exact F
/-- a def at the top -/
structure Fx (K : PySem.W.Frag) (mg : Str → Option Value) (x : Str) (st : Stmt) (ps : List Str) : Prop where
  fn : FD K (x, none) x x st
  bi : Binds K (fdOf K (x, none)) ps []
  mg : mg x = some (.ref (He.ga K x))
/-- a method -/
structure Mx (K : PySem.W.Frag) (C m q : Str) (st : Stmt) (ps : List Str) : Prop where
  fn : FD K (C, some m) m q st
  bi : Binds K (fdOf K (C, some m)) ps []
  me : Meth K (He.ga K C) m (He.ma K (He.ga K C) m)

section
variable {P : Program} {w : World} {K : PySem.W.Frag} {mg : Str → Option Value} {base : Heap}
abbrev FO (P : Program) (w : World) (K : PySem.W.Frag) (mg : Str → Option Value) (base : Heap) (k : Nat) (p : Str × Option Str) (ps : List Str) (sp : Sp) : Prop :=
  FnOk P w K mg base CX0 k (He.fAd K p) (fdOf K p) ps sp
/-- a def that lets nothing out -/
theorem ok0 {p : Str × Option Str} {x q : Str} {st : Stmt} {N ps : List Str} {k : Nat} {sp : Sp} (F : FD K p x q st) (S : FnScope N ps (defScope st))
    (len : ∀ vs H Q E, sp vs H Q E → vs.length = ps.length)
    (hb : ∀ (cdv : Value) (A : Around) (outer : List Env) (s : Shared) (H : Hp) (vs : List V) (Q : VK) (E : XK),
      Room k (A.deeper (envOfC q (defScope st) s.heap.objs.size (He.fAd K p) cdv)) → sp vs H Q E →
      ∃ t, PSs (cxOf CX0 P w K mg base N q (defScope st) (He.fAd K p) cdv A outer s H E).nox (defBody st) t ∧ t { nx := fun _ H' => Q .non H', rt := Q } (start N vs) H) :
    FO P w K mg base (k + 1) p ps sp :=
  FunD.ok F S len fun cdv A outer s H vs Q E hr h => by
    obtain ⟨t, d, q⟩ := hb cdv A outer s H vs Q E hr h
    exact ⟨t, d.nox, q⟩
end

/-! ### heaps: all is kept but what stands at p -/
def Keep (p : Addr) (H H' : Hp) : Prop := ∀ b o, b ≠ p → H b = some o → H' b = some o
theorem Keep.refl (p : Addr) (H : Hp) : Keep p H H := fun _ _ _ h => h
theorem Keep.trans {p : Addr} {H H1 H2 : Hp} (a : Keep p H H1) (b : Keep p H1 H2) : Keep p H H2 := fun c o n h => b c o n (a c o n h)
theorem Keep.same {p : Addr} {H H' : Hp} (h : Same H H') : Keep p H H' := fun b o _ e => h b o e
theorem Keep.upd {p : Addr} {H : Hp} {o : HO} : Keep p H (L2.upd H p o) := fun b u n e => by rw [upd_ne n]; exact e
theorem same_new {H : Hp} {p : Addr} {o : HO} (h : H p = none) : Same H (upd H p o) := fun a u e => by
  rw [upd_ne (ne_of_none e h)]
  exact e
theorem Keep.new {p q : Addr} {H H1 : Hp} {o : HO} (k : Keep p H H1) (h : H1 q = none) : Keep p H (L2.upd H1 q o) := k.trans (.same (same_new h))
theorem Keep.sql {K : PySem.W.Frag} {p a : Addr} {H H' : Hp} {xs : List V} (k : Keep p H H') (n : a ≠ p) (h : SqL K H a xs) : SqL K H' a xs := by
  rcases h with (h | ⟨o, h⟩) | h
  · exact .inl (.inl (k _ _ n h))
  · exact .inl (.inr ⟨o, k _ _ n h⟩)
  · exact .inr h
theorem Keep.sqt {K : PySem.W.Frag} {p a : Addr} {H H' : Hp} {xs : List V} (k : Keep p H H') (n : a ≠ p) (h : SqT K H a xs) : SqT K H' a xs := by
  rcases h with (h | ⟨o, h⟩) | h
  · exact .inl (.inl (k _ _ n h))
  · exact .inl (.inr ⟨o, k _ _ n h⟩)
  · exact .inr h

/-! ### a pot: three numbers; n more than it has given so far -/
def PotAt (n : Int) (H : Hp) (p : Addr) : Prop :=
  ∃ a b c : Int, H p = some (.lst [.int a, .int b, .int c]) ∧ 0 ≤ a ∧ 0 ≤ b ∧ b < 2147483647 ∧ 0 ≤ c ∧ c ≤ n
theorem PotAt.mono {n m : Int} {H : Hp} {p : Addr} (h : PotAt n H p) (l : n ≤ m) : PotAt m H p := by
  obtain ⟨a, b, c, e, h1, h2, h3, h4, h5⟩ := h
  exact ⟨a, b, c, e, h1, h2, h3, h4, by omega⟩
theorem PotAt.same {n : Int} {H H' : Hp} {p : Addr} (h : PotAt n H p) (s : Same H H') : PotAt n H' p := by
  obtain ⟨a, b, c, e, h1, h2, h3, h4, h5⟩ := h
  exact ⟨a, b, c, s _ _ e, h1, h2, h3, h4, h5⟩
theorem PotAt.at {n : Int} {H : Hp} {p : Addr} (h : PotAt n H p) : ∃ xs, H p = some (.lst xs) := by
  obtain ⟨a, b, c, e, _⟩ := h
  exact ⟨_, e⟩
theorem PotAt.ne {n : Int} {H : Hp} {p q : Addr} (h : PotAt n H p) (e : H q = none) : q ≠ p := fun z => by
  obtain ⟨xs, e1⟩ := h.at
  rw [z, e1] at e
  cases e
/-- the digit's promise: some number below m -/
def spDigit : Sp := fun vs H Q _ => ∃ (p : Addr) (m n : Int), vs = [.ref p, .int m] ∧ 0 < m ∧ m < 1073741824 ∧ n < 1152921504606846976 ∧ PotAt n H p ∧
  ∀ (H' : Hp) (d : Int), Keep p H H' → PotAt (n + 1) H' p → 0 ≤ d → d < m → Q (.int d) H'
def spPot (K : PySem.W.Frag) : Sp := fun vs H Q _ => ∃ (a : Addr) (ns : List Int) (k : Int), vs = [.ref a, .int k] ∧ SqL K H a (ns.map V.int) ∧ ns.length ≤ 63 ∧ 0 ≤ k ∧ k < 1000 ∧
  ∀ (H' : Hp) (p : Addr), Same H H' → H p = none → PotAt 0 H' p → Q (.ref p) H'
theorem Keep.mut {p q : Addr} {H H1 : Hp} {o : HO} (k : Keep p H H1) (h : H q = none) : Keep p H (L2.upd H1 q o) := fun b u n e => by
  rw [upd_ne (ne_of_none e h)]
  exact k b u n e
theorem Keep.back {p q : Addr} {H H1 : Hp} (k : Keep p H H1) (n : q ≠ p) (h : H1 q = none) : H q = none := by
  cases e : H q with
  | none => rfl
  | some o =>
    rw [k q o n e] at h
    cases h
theorem PotAt.mut {n : Int} {H : Hp} {p q : Addr} {o : HO} (h : PotAt n H p) (ne : q ≠ p) : PotAt n (L2.upd H q o) p := by
  obtain ⟨a, b, c, e, r⟩ := h
  exact ⟨a, b, c, by rw [upd_ne (Ne.symm ne)]; exact e, r⟩
/-- signs of a text: from the blank to the ~, the percent sign left out -/
def Sign (c : Nat) : Prop := 32 ≤ c ∧ c ≤ 126 ∧ c ≠ 37
def Texty (z : Str) : Prop := z.length ≤ 40 ∧ ∀ c ∈ z.cps.toList, Sign c
def spText : Sp := fun vs H Q _ => ∃ (p : Addr) (n : Int), vs = [.ref p] ∧ n < 1000000000000000000 ∧ PotAt n H p ∧
  ∀ (H' : Hp) (z : Str), Keep p H H' → PotAt (n + 100) H' p → Texty z → Q (.str z) H'
end FS

set_option Elab.async false
set_option linter.all false
set_option maxRecDepth 100000
set_option maxHeartbeats 4000000
namespace FS
open PySem PySem.Spec PyProof.Rows L2
theorem upd_old {H : Hp} {a q : Addr} {o v : HO} (hf : H q = none) (h : H a = some v) : upd H q o a = some v := by rw [upd_ne (ne_of_none h hf)]; exact h
theorem upd_far {H : Hp} {a q : Addr} {o v : HO} (n : a ≠ q) (h : H a = some v) : upd H q o a = some v := by rw [upd_ne n]; exact h
/-! ### one step of a reading each -/
section
variable {K : PySem.W.Frag} {σ : L2.St} {H : Hp} {Q : VK} {D : Ends} {i : Nat} {v x y : V} {ta tb tc te : TE} {t u : TS} {tt tu : TT} {g : TG} {TA0 TA1 : TA} {B : Bool → Hp → Prop}
theorem rd_var (h : σ[i]? = some (some v)) (q : Q v H) : tVar i σ H Q := ⟨v, h, q⟩
theorem rd_c (q : Q v H) : tC v σ H Q := q
theorem rd_op {r : R2} (q : ta σ H fun x H1 => tb σ H1 fun y H2 => r x y H2 Q) : tOp r ta tb σ H Q := q
theorem rd_un {r : V → Hp → VK → Prop} (q : ta σ H fun x H1 => r x H1 Q) : tUn r ta σ H Q := q
theorem rd_test (q : te σ H fun x H' => ∃ k, x = .bl k ∧ B k H') : tTest te σ H B := q
theorem rd_b (q : te σ H fun x H' => ∃ k, x = .bl k ∧ B k H') : tB te σ H B := q
theorem rd_and (q : tt σ H fun c H1 => if c = true then tu σ H1 B else B false H1) : tAnd tt tu σ H B := q
theorem rd_or (q : tt σ H fun c H1 => if c = true then B true H1 else tu σ H1 B) : tOr tt tu σ H B := q
theorem rd_not (q : tt σ H fun c H1 => B (!c) H1) : tNot tt σ H B := q
theorem rd_andV (q : ta σ H fun x H1 => ∃ c, x = .bl c ∧ if c = true then tb σ H1 Q else Q (.bl false) H1) : tAndV ta tb σ H Q := q
theorem rd_orV (q : ta σ H fun x H1 => ∃ c, x = .bl c ∧ if c = true then Q (.bl true) H1 else tb σ H1 Q) : tOrV ta tb σ H Q := q
theorem rd_notV (q : ta σ H fun x H1 => ∃ c, x = .bl c ∧ Q (.bl (!c)) H1) : tNotV ta σ H Q := q
theorem rd_if (q : tt σ H fun c H1 => if c = true then ta σ H1 Q else tb σ H1 Q) : tIf tt ta tb σ H Q := q
theorem rd_next (q : D.nx σ H) : tNext D σ H := q
theorem rd_seq (q : t { D with nx := u D } σ H) : tSeq t u D σ H := q
theorem rd_drop (q : te σ H fun _ H1 => D.nx σ H1) : tDrop te D σ H := q
theorem rd_ret (q : te σ H D.rt) : tRet te D σ H := q
theorem rd_retN (q : D.rt .non H) : tRetN D σ H := q
theorem rd_ifs (q : tt σ H fun b H1 => if b = true then t D σ H1 else u D σ H1) : tIfS tt t u D σ H := q
theorem rd_name {G : L2.St → Hp → Prop} (q : G (σ.set i (some v)) H) : gName i v σ H G := q
theorem rd_asg (q : te σ H fun x H1 => g x σ H1 D.nx) : tAsg te g D σ H := q
theorem rd_sub {to ti : TE} {ts : TSet} {G : L2.St → Hp → Prop} (q : to σ H fun o H1 => ti σ H1 fun i H2 => ts o i v H2 fun H3 => G σ H3) : gSub to ti ts v σ H G := q
theorem rd_nil {A : List V → Hp → Prop} (q : A [] H) : tNil σ H A := q
theorem rd_cons {A : List V → Hp → Prop} (q : te σ H fun x H1 => TA0 σ H1 fun xs H2 => A (x :: xs) H2) : tCons te TA0 σ H A := q
theorem rd_tup (q : TA0 σ H fun xs H1 => xs.length ≤ sizeLine ∧ ∀ p, H1 p = none → Q (.ref p) (upd H1 p (.tup xs))) : tTup TA0 σ H Q := q
theorem rd_lst (q : TA0 σ H fun xs H1 => xs.length ≤ sizeLine ∧ ∀ p, H1 p = none → Q (.ref p) (upd H1 p (.lst xs))) : tLst TA0 σ H Q := q
theorem rd_call {sp : Sp} {dvs : List V} {E : XK} (q : TA0 σ H fun vs H1 => sp (vs ++ dvs) H1 Q E) : tCall sp dvs E TA0 σ H Q := q
theorem rd_cb {r : List V → Hp → VK → Prop} (q : TA0 σ H fun vs H1 => r vs H1 Q) : tCB r TA0 σ H Q := q
theorem rd_i0 {g : Int → Int → V} {i j : Int} (q : Q (g i j) H) : rI0 g (.int i) (.int j) H Q := ⟨i, j, rfl, rfl, q⟩
theorem rd_i {C : Int → Int → Prop} {g : Int → Int → V} {i j : Int} (c : C i j) (q : Q (g i j) H) : rI C g (.int i) (.int j) H Q := ⟨i, j, rfl, rfl, c, q⟩
theorem rd_eq (c : scal x y = true) (q : Q (.bl (decide (x = y))) H) : rEq x y H Q := ⟨c, q⟩
theorem rd_ne (c : scal x y = true) (q : Q (.bl (!decide (x = y))) H) : rNe x y H Q := ⟨c, q⟩
theorem rd_bl {b : Bool} (q : B b H) : ∃ k, V.bl b = .bl k ∧ B k H := ⟨b, rfl, q⟩
theorem rd_blI {b : Bool} {P1 P2 : Bool → Prop} (q : if b = true then P1 b else P2 b) : ∃ k, V.bl b = .bl k ∧ (if k = true then P1 k else P2 k) := ⟨b, rfl, q⟩
theorem rd_blP {b : Bool} {P : Bool → Prop} (q : P b) : ∃ k, V.bl b = .bl k ∧ P k := ⟨b, rfl, q⟩
theorem rd_size {n : Nat} {P : Prop} (h : n ≤ 1000) (q : P) : n ≤ sizeLine ∧ P := ⟨Nat.le_trans h (by decide), q⟩
theorem rd_ixL {p : Addr} {xs : List V} {i : Int} (h : H p = some (.lst xs)) (e : atI xs i = some v) (q : Q v H) : rIx K (.ref p) (.int i) H Q := .inl ⟨p, xs, i, v, rfl, rfl, SqL.of h, e, q⟩
theorem rd_ixT {p : Addr} {xs : List V} {i : Int} (h : H p = some (.tup xs)) (e : atI xs i = some v) (q : Q v H) : rIx K (.ref p) (.int i) H Q := .inr (.inl ⟨p, xs, i, v, rfl, rfl, SqT.of h, e, q⟩)
theorem rd_ixS {z : Str} {i : Int} {c : Nat} (hz : z.length ≤ sizeLine) (e : atI z.cps.toList i = some c) (q : Q (.str ⟨#[c]⟩) H) : rIx K (.str z) (.int i) H Q := .inr (.inr ⟨z, i, c, rfl, rfl, hz, e, q⟩)
theorem rd_setL {p : Addr} {xs : List V} {i : Int} {j : Nat} {G : Hp → Prop} (h : H p = some (.lst xs)) (e : ixN xs.length i = some j) (q : G (upd H p (.lst (xs.set j v)))) : rSetL (.ref p) (.int i) v H G := ⟨p, xs, i, j, rfl, rfl, h, e, q⟩
theorem rd_ixLK {p : Addr} {xs : List V} {i : Int} (h : SqL K H p xs) (e : atI xs i = some v) (q : Q v H) : rIx K (.ref p) (.int i) H Q := .inl ⟨p, xs, i, v, rfl, rfl, h, e, q⟩
theorem rd_ixTK {p : Addr} {xs : List V} {i : Int} (h : SqT K H p xs) (e : atI xs i = some v) (q : Q v H) : rIx K (.ref p) (.int i) H Q := .inr (.inl ⟨p, xs, i, v, rfl, rfl, h, e, q⟩)
theorem atI_map {α : Type} {f : α → V} {xs : List α} {k : Int} (h0 : 0 ≤ k) (h1 : k < (xs.length : Int)) : ∃ a, a ∈ xs ∧ xs[k.toNat]? = some a ∧ atI (xs.map f) k = some (f a) := by
  have hj : k.toNat < xs.length := by omega
  refine ⟨xs[k.toNat], List.getElem_mem hj, List.getElem?_eq_getElem hj, ?_⟩
  have e := atI_nat (xs := xs.map f) (j := k.toNat) (v := f xs[k.toNat]) (by simp [hj])
  rwa [Int.toNat_of_nonneg h0] at e
theorem atI_get {α : Type} {xs : List α} {k : Int} (h0 : 0 ≤ k) (h1 : k < (xs.length : Int)) : ∃ a, a ∈ xs ∧ xs[k.toNat]? = some a ∧ atI xs k = some a := by
  have hj : k.toNat < xs.length := by omega
  refine ⟨xs[k.toNat], List.getElem_mem hj, List.getElem?_eq_getElem hj, ?_⟩
  have e := atI_nat (xs := xs) (j := k.toNat) (v := xs[k.toNat]) (by simp [hj])
  rwa [Int.toNat_of_nonneg h0] at e
/-- [x, y][int(b)] -/
theorem rd_pick2 {p : Addr} {b : Bool} (h : H p = some (.lst [x, y])) (q : ∀ v, (b = false ∧ v = x) ∨ (b = true ∧ v = y) → Q v H) : rIx K (.ref p) (.int (if b = true then 1 else 0)) H Q := by
  cases b with
  | false => exact rd_ixL (i := 0) h rfl (q _ (.inl ⟨rfl, rfl⟩))
  | true => exact rd_ixL (i := 1) h rfl (q _ (.inr ⟨rfl, rfl⟩))
theorem rd_cat {l b : Addr} {xs zs : List V} (h1 : H l = some (.lst xs)) (h2 : H b = some (.lst zs)) (z : xs.length + zs.length ≤ 1000) (q : ∀ p, H p = none → Q (.ref p) (upd H p (.lst (xs ++ zs)))) : rCat (.ref l) (.ref b) H Q :=
  ⟨l, b, xs, zs, rfl, rfl, h1, h2, Nat.le_trans z (by decide), q⟩
theorem rd_append {l : Addr} {xs : List V} (h : H l = some (.lst xs)) (z : xs.length < 10000) (q : Q .non (upd H l (.lst (xs ++ [y])))) : rAppend (.ref l) [y] H Q := ⟨l, xs, y, rfl, rfl, h, Nat.lt_of_lt_of_le z (by decide), q⟩
theorem rd_eqD {d e : PyData} (h1 : Dp K H x d) (h2 : Dp K H y e) (s1 : SeqAt.shaped d = true) (s2 : SeqAt.shaped e = true) (q : Q (.bl (PyData.eqv d e)) H) : rEqD K x y H Q := ⟨d, e, h1, h2, s1, s2, q⟩
theorem rd_neD {d e : PyData} (h1 : Dp K H x d) (h2 : Dp K H y e) (s1 : SeqAt.shaped d = true) (s2 : SeqAt.shaped e = true) (q : Q (.bl (!PyData.eqv d e)) H) : rNeD K x y H Q := ⟨d, e, h1, h2, s1, s2, q⟩
theorem canLayAll_of : ∀ ds : List PyData, (∀ d ∈ ds, d.canLay0 = true) → PyData.canLayAll0 ds = true
  | [], _ => rfl
  | d :: ds, h => by
    show (d.canLay0 && PyData.canLayAll0 ds) = true
    rw [h d (List.mem_cons_self ..), canLayAll_of ds fun x hx => h x (List.mem_cons_of_mem _ hx)]
    rfl
theorem depthAll_of : ∀ (ds : List PyData) (n : Nat), (∀ d ∈ ds, d.depth ≤ n) → PyData.depthAll ds ≤ n
  | [], _, _ => Nat.zero_le _
  | d :: ds, n, h => Nat.max_le.mpr ⟨h d (List.mem_cons_self ..), depthAll_of ds n fun x hx => h x (List.mem_cons_of_mem _ hx)⟩
theorem shaped_list {ds : List PyData} (h1 : ∀ d ∈ ds, d.canLay0 = true) (h2 : ∀ d ∈ ds, d.depth ≤ 63) : SeqAt.shaped (.list ds) = true := by
  unfold SeqAt.shaped
  rw [show (PyData.list ds).canLay0 = true from canLayAll_of ds h1, decide_eq_true (show (PyData.list ds).depth ≤ 64 from Nat.succ_le_succ (depthAll_of ds 63 h2))]
  rfl
theorem dp_bools : ∀ bs : List Bool, DpAll K H (bs.map V.bl) (bs.map PyData.bool)
  | [] => .nil
  | b :: bs => .cons (.bl b) (dp_bools bs)
theorem rd_chain {r r' : R2} (q : ta σ H fun x H1 => tb σ H1 fun y H2 => r x y H2 fun z H3 => ∃ k, z = .bl k ∧ (if k = true then tc σ H3 fun w' H4 => r' y w' H4 Q else Q (.bl false) H3)) : tChain r r' ta tb tc σ H Q := q
/-! ### rules whose reading names K (told apart from the context, so that they serve in blocks too) -/
theorem u_ix {X : Cx} (hK : X.K = K) : IxR X (rIx K) := by subst hK; exact ix_seq
theorem u_slL {X : Cx} (hK : X.K = K) : SlR X (rSlL K) := by subst hK; exact sl_list
theorem u_slT {X : Cx} (hK : X.K = K) : SlR X (rSlT K) := by subst hK; exact sl_tup
theorem u_in {X : Cx} (hK : X.K = K) : OpR X (compareOp .In) (rIn K false) := by subst hK; exact op_in_seq
theorem u_notin {X : Cx} (hK : X.K = K) : OpR X (compareOp .NotIn) (rIn K true) := by subst hK; exact op_notIn_seq
theorem u_gstr {X : Cx} {x z : Str} {pos : Pos} (hg : Gl X x) (h : ∃ t, X.mg x = some (.str z t)) (hd : (x == ("__debug__" : Str)) = false := by decide) : PE X (.Name x pos) (tC (.str z)) := by
  obtain ⟨t, h⟩ := h
  exact pe_glob hg h ⟨_, rfl⟩ hd
theorem u_gint {X : Cx} {x : Str} {n : Int} {pos : Pos} (hg : Gl X x) (h : ∃ t, X.mg x = some (.int n t)) (hd : (x == ("__debug__" : Str)) = false := by decide) : PE X (.Name x pos) (tC (.int n)) := by
  obtain ⟨t, h⟩ := h
  exact pe_glob hg h ⟨_, rfl⟩ hd
theorem u_eqD {X : Cx} (hK : X.K = K) (hu : X.A.units + 64 < cLine) : OpR X (compareOp .Eq) (rEqD K) := by subst hK; exact op_eqD hu
theorem u_neD {X : Cx} (hK : X.K = K) (hu : X.A.units + 64 < cLine) : OpR X (compareOp .NotEq) (rNeD K) := by subst hK; exact op_neD hu
theorem u_fld {X : Cx} {e : Expr} {f : Str} {pos : Pos} (hK : X.K = K) (he : PE X e ta) (hb : attributeBase e f X.env (eval e X.env) = eval e X.env) : PE X (.Attribute e f pos) (tFld K ta f) := by subst hK; exact pe_fld he hb
theorem u_gtup {X : Cx} {es : List Expr} {k n : Nat} {t : TGs} {pos : Pos} (hK : X.K = K) (hc : X.calm = true) (h : PGs X es t)
    (hn : (assignEach es X.env).length = n := by rfl) (hst : (assignEach es X.env).findIdx? (·.1) = none := by rfl) : PG X (.Tuple es k pos) (gTup K n t) := by subst hK; exact pg_tup hc h hn hst
theorem u_ilist {X : Cx} {tg l : Expr} {tl : TE} (hK : X.K = K) (hl : PE X l tl) : PI X tg l (iList K tl) := by subst hK; exact pi_list hl
theorem u_ituple {X : Cx} {tg l : Expr} {tl : TE} (hK : X.K = K) (hl : PE X l tl) : PI X tg l (iTup K tl) := by subst hK; exact pi_tup hl
/-! ### named readings of built-ins -/
def uLen (K : PySem.W.Frag) : List V → Hp → VK → Prop := fun xs H Q => ∃ x n, xs = [x] ∧ LenV K x H n ∧ Q (.int (n : Nat)) H
theorem u_len {X : Cx} (hK : X.K = K) : CallR X (.builtin "len") (uLen K) := by subst hK; exact call_len
theorem rd_lenL {p : Addr} {xs : List V} (h : SqL K H p xs) (q : Q (.int (xs.length : Nat)) H) : uLen K [.ref p] H Q := ⟨_, _, rfl, .inl ⟨_, h, rfl⟩, q⟩
theorem rd_lenT {p : Addr} {xs : List V} (h : SqT K H p xs) (q : Q (.int (xs.length : Nat)) H) : uLen K [.ref p] H Q := ⟨_, _, rfl, .inr ⟨_, h, rfl⟩, q⟩
theorem rd_lenS {z : Str} (h : z.length ≤ sizeLine) (q : Q (.int (z.length : Nat)) H) : uLen K [.str z] H Q := ⟨_, _, rfl, ⟨h, rfl⟩, q⟩
def uMax : List V → Hp → VK → Prop := fun xs H Q => ∃ i j, xs = [.int i, .int j] ∧ Q (.int (if j > i then j else i)) H
theorem u_max {X : Cx} (hc : X.calm = true) : CallR X (.builtin "max") uMax := call_max2 hc
theorem rd_max {i j : Int} (q : ∀ m : Int, (m = i ∨ m = j) → i ≤ m → j ≤ m → Q (.int m) H) : uMax [.int i, .int j] H Q := by
  refine ⟨i, j, rfl, ?_⟩
  by_cases h : j > i
  · rw [if_pos h]; exact q j (.inr rfl) (by omega) (by omega)
  · rw [if_neg h]; exact q i (.inl rfl) (by omega) (by omega)
def uMin : List V → Hp → VK → Prop := fun xs H Q => ∃ i j, xs = [.int i, .int j] ∧ Q (.int (if j < i then j else i)) H
theorem u_min {X : Cx} (hc : X.calm = true) : CallR X (.builtin "min") uMin := call_min2 hc
theorem rd_min {i j : Int} (q : ∀ m : Int, (m = i ∨ m = j) → m ≤ i → m ≤ j → Q (.int m) H) : uMin [.int i, .int j] H Q := by
  refine ⟨i, j, rfl, ?_⟩
  by_cases h : j < i
  · rw [if_pos h]; exact q j (.inr rfl) (by omega) (by omega)
  · rw [if_neg h]; exact q i (.inl rfl) (by omega) (by omega)
def uInt : List V → Hp → VK → Prop := fun xs H Q => (∃ i, xs = [.int i] ∧ Q (.int i) H) ∨ ∃ k, xs = [.bl k] ∧ Q (.int (if k then 1 else 0)) H
theorem u_int {X : Cx} : CallR X (.type "int") uInt := call_int1
theorem rd_intB {k : Bool} (q : Q (.int (if k then 1 else 0)) H) : uInt [.bl k] H Q := .inr ⟨k, rfl, q⟩
def uJoin (K : PySem.W.Frag) : V → List V → Hp → VK → Prop := fun x xs H Q => ∃ a p, ∃ ys : List Str, x = .str a ∧ xs = [.ref p] ∧ (SqL K H p (ys.map V.str) ∨ SqT K H p (ys.map V.str)) ∧
  (ys.map (·.length)).sum + ys.length * a.length ≤ 16777216 ∧ Q (.str (Txt.join a ys)) H
theorem u_join {X : Cx} {o e : Expr} {to te : TE} {apos pos : Pos} (hK : X.K = K) (ho : PE X o to) (he : PE X e te) (hs : starEach [e] X.env = [(false, eval e X.env)] := by rfl) (hbase : attributeBase o "join" X.env (eval o X.env) = eval o X.env := by rfl)
    (hline : (apos.endLine == pos.line) = true := by rfl) : PE X (.Call (.Attribute o "join" apos) [e] [] pos) (tM1 (uJoin K) to te) := by subst hK; exact pe_join ho he hs hbase hline
theorem rd_m1 {r : V → List V → Hp → VK → Prop} {to : TE} (q : to σ H fun x H1 => (∃ a, x = .str a) ∧ te σ H1 fun y H2 => r x [y] H2 Q) : tM1 r to te σ H Q := q
theorem rd_str {z : Str} {P : Prop} (q : P) : (∃ a, V.str z = .str a) ∧ P := ⟨⟨z, rfl⟩, q⟩
theorem rd_join {a : Str} {p : Addr} {ys : List Str} (h : H p = some (.lst (ys.map V.str))) (z : (ys.map (·.length)).sum + ys.length * a.length ≤ 16777216) (q : Q (.str (Txt.join a ys)) H) : uJoin K (.str a) [.ref p] H Q :=
  ⟨a, p, ys, rfl, rfl, .inl (SqL.of h), z, q⟩
/-! ### loops -/
def LcJ (g : TG) (tt : TT) (te : TE) (vs : List Nat) (σ : L2.St) (Q : VK) (J : It) (H1 : Hp) : Prop := ∀ D, H1 D = none → ∃ W : Nat → Nat → Hp → Prop, (∃ m, W 0 m (upd H1 D (.lst []))) ∧ ∀ i m H, W i m H →
    (J.stop i H ∧ Q (.ref D) H) ∨ (J.go i H ∧ ∃ Nx : Hp → Prop, (∀ H', Nx H' → ∃ m', m' < m ∧ W (i + 1) m' H') ∧ ∀ x H', J.yld i H x H' → g x (wipe σ vs) H' fun σ2 H2 => wipe σ2 vs = wipe σ vs ∧ tt σ2 H2 fun b H3 =>
      if b = true then te σ2 H3 fun y H4 => ∃ acc, H4 D = some (.lst acc) ∧ acc.length < sizeLine ∧ Nx (upd H4 D (.lst (acc ++ [y]))) else Nx H3)
theorem rd_lc {wi : TI} {vs : List Nat} (q : wi σ H fun J H1 => LcJ g tt te vs σ Q J H1) : tLc wi g tt te vs σ H Q := q
def ForJ (g : TG) (t : TS) (D : Ends) (σ : L2.St) (J : It) (H1 : Hp) : Prop := ∃ W : Nat → Nat → L2.St → Hp → Prop, (∃ m, W 0 m σ H1) ∧ ∀ i m σ H, W i m σ H →
    (J.stop i H ∧ D.nx σ H) ∨ (J.go i H ∧ ∃ N : L2.St → Hp → Prop, (∀ σ' H', N σ' H' → ∃ m', m' < m ∧ W (i + 1) m' σ' H') ∧ ∀ x H', J.yld i H x H' → g x σ H' fun σ2 H2 => t { D with nx := N, ct := N, bk := D.nx } σ2 H2)
theorem rd_for {wi : TI} (q : wi σ H fun J H1 => ForJ g t D σ J H1) : tFor wi g t D σ H := q
theorem for_R {lo : Int} {n : Nat} (Pv : Nat → L2.St → Hp → Prop) (h0 : Pv 0 σ H)
    (hs : ∀ (i : Nat) σ H, i < n → Pv i σ H → g (.int (lo + i)) σ H fun σ2 H2 => t { D with nx := Pv (i + 1), ct := Pv (i + 1), bk := D.nx } σ2 H2) (hd : ∀ σ H, Pv n σ H → D.nx σ H) : ForJ g t D σ (Itr lo n) H := for_range Pv h0 hs hd
theorem for_L {a : Addr} {xs : List V} (Pv : Nat → L2.St → Hp → Prop) (h0 : Pv 0 σ H) (hl : ∀ i σ H, i ≤ xs.length → Pv i σ H → SqL K H a xs)
    (hs : ∀ (i : Nat) x σ H, xs[i]? = some x → Pv i σ H → g x σ H fun σ2 H2 => t { D with nx := Pv (i + 1), ct := Pv (i + 1), bk := D.nx } σ2 H2) (hd : ∀ σ H, Pv xs.length σ H → D.nx σ H) : ForJ g t D σ (Itl K a) H := for_list Pv h0 hl hs hd
theorem lc_R {lo : Int} {n : Nat} {vs : List Nat} (Pv : Addr → Nat → Hp → Prop) (h0 : ∀ D, H D = none → Pv D 0 (upd H D (.lst [])))
    (hs : ∀ D (i : Nat) G, H D = none → i < n → Pv D i G → g (.int (lo + i)) (wipe σ vs) G fun σ2 H2 => wipe σ2 vs = wipe σ vs ∧ tt σ2 H2 fun b H3 =>
      if b = true then te σ2 H3 fun y H4 => ∃ acc, H4 D = some (.lst acc) ∧ acc.length < sizeLine ∧ Pv D (i + 1) (upd H4 D (.lst (acc ++ [y]))) else Pv D (i + 1) H3) (hd : ∀ D G, H D = none → Pv D n G → Q (.ref D) G) :
    LcJ g tt te vs σ Q (Itr lo n) H := fun D hD => lc_range (Pv D) (h0 D hD) (fun i G hi p => hs D i G hD hi p) (fun G p => hd D G hD p)
theorem lc_L {a : Addr} {xs : List V} {vs : List Nat} (Pv : Addr → Nat → Hp → Prop) (h0 : ∀ D, H D = none → Pv D 0 (upd H D (.lst []))) (hl : ∀ D i G, H D = none → i ≤ xs.length → Pv D i G → SqL K G a xs)
    (hs : ∀ D (i : Nat) x G, H D = none → xs[i]? = some x → Pv D i G → g x (wipe σ vs) G fun σ2 H2 => wipe σ2 vs = wipe σ vs ∧ tt σ2 H2 fun b H3 =>
      if b = true then te σ2 H3 fun y H4 => ∃ acc, H4 D = some (.lst acc) ∧ acc.length < sizeLine ∧ Pv D (i + 1) (upd H4 D (.lst (acc ++ [y]))) else Pv D (i + 1) H3) (hd : ∀ D G, H D = none → Pv D xs.length G → Q (.ref D) G) :
    LcJ g tt te vs σ Q (Itl K a) H := fun D hD => lc_list (Pv D) (h0 D hD) (fun i G hi p => hl D i G hD hi p) (fun i x G hi p => hs D i x G hD hi p) (fun G p => hd D G hD p)
theorem same_mut {H G : Hp} {D : Addr} {o : HO} (s : Same H G) (h : H D = none) : Same H (upd G D o) := fun b u e => by rw [upd_ne (ne_of_none e h)]; exact s b u e
def Rng1 (vs : List V) (H : Hp) (R : It → Hp → Prop) : Prop := ∃ j : Int, vs = [.int j] ∧ -(2 ^ 62) ≤ j ∧ j < 2 ^ 62 ∧ R (Itr 0 j.toNat) H
def Rng2 (vs : List V) (H : Hp) (R : It → Hp → Prop) : Prop := ∃ i j : Int, vs = [.int i, .int j] ∧ (-(2 ^ 62) ≤ i ∧ i < 2 ^ 62 ∧ -(2 ^ 62) ≤ j ∧ j < 2 ^ 62) ∧ R (Itr i (j - i).toNat) H
def IlJ (K : PySem.W.Frag) (x : V) (H : Hp) (R : It → Hp → Prop) : Prop := ∃ a, x = .ref a ∧ (∃ xs, SqL K H a xs) ∧ R (Itl K a) H
theorem rd_rng1 {R : It → Hp → Prop} (q : TA0 σ H fun vs H1 => Rng1 vs H1 R) : iRng1 TA0 σ H R := q
theorem rd_rng2 {R : It → Hp → Prop} (q : TA0 σ H fun vs H1 => Rng2 vs H1 R) : iRng2 TA0 σ H R := q
theorem rd_rngJ {R : It → Hp → Prop} {j : Int} (h1 : -1000000 ≤ j) (h2 : j ≤ 1000000) (q : R (Itr 0 j.toNat) H) : Rng1 [.int j] H R := ⟨j, rfl, by omega, by omega, q⟩
theorem rd_rngIJ {R : It → Hp → Prop} {i j : Int} (h0 : -1000000 ≤ i) (h3 : i ≤ 1000000) (h1 : -1000000 ≤ j) (h2 : j ≤ 1000000) (q : R (Itr i (j - i).toNat) H) : Rng2 [.int i, .int j] H R :=
  ⟨i, j, rfl, ⟨by omega, by omega, by omega, by omega⟩, q⟩
theorem rd_ilist {R : It → Hp → Prop} (q : te σ H fun x H1 => IlJ K x H1 R) : iList K te σ H R := q
theorem rd_ilistJ {R : It → Hp → Prop} {a : Addr} {xs : List V} (h : SqL K H a xs) (q : R (Itl K a) H) : IlJ K (.ref a) H R := ⟨a, rfl, ⟨xs, h⟩, q⟩
theorem rd_yes (q : B true H) : tYes σ H B := q
theorem rd_then {A B : Prop} (q : A) : if true = true then A else B := by rw [if_pos rfl]; exact q
theorem rd_else {A B : Prop} (q : B) : if false = true then A else B := by rw [if_neg Bool.false_ne_true]; exact q
theorem rd_thenN {A B : Prop} (q : A) : if (!false) = true then A else B := by rw [if_pos (by decide)]; exact q
theorem rd_elseN {A B : Prop} (q : B) : if (!true) = true then A else B := by rw [if_neg (by decide)]; exact q
/-! ### the pot's words -/
theorem rd_digit {E : XK} {p : Addr} {m n : Int} (h0 : 0 < m) (h1 : m < 1073741824) (h2 : n < 1152921504606846976) (h : PotAt n H p)
    (q : ∀ (H' : Hp) (d : Int), Keep p H H' → PotAt (n + 1) H' p → 0 ≤ d → d < m → Q (.int d) H') : spDigit ([.ref p, .int m] ++ []) H Q E := ⟨p, m, n, rfl, h0, h1, h2, h, q⟩
theorem join_signs : ∀ cs : List Nat, Txt.join (Str.ofString "") (cs.map fun c => (⟨#[c]⟩ : Str)) = ⟨cs.toArray⟩ := by
  intro cs
  have key : ∀ l : List Nat, TL.joinL [] ((l.map fun c => (⟨#[c]⟩ : Str)).map TL.tl) = l := by
    intro l
    induction l with
    | nil => rfl
    | cons a l ih =>
      cases l with
      | nil => rfl
      | cons b l =>
        show TL.tl ⟨#[a]⟩ ++ ([] ++ TL.joinL [] (((b :: l).map fun c => (⟨#[c]⟩ : Str)).map TL.tl)) = a :: b :: l
        rw [ih]
        rfl
  rw [TL.join_eq]
  have e : (Str.join (Str.ofString "") (cs.map fun c => (⟨#[c]⟩ : Str))).cps.toList = cs := by
    have h := TL.tl_join (Str.ofString "") (cs.map fun c => (⟨#[c]⟩ : Str))
    have e0 : TL.tl (Str.ofString "") = [] := by decide +kernel
    rw [e0, key] at h
    exact h
  generalize Str.join (Str.ofString "") (cs.map fun c => (⟨#[c]⟩ : Str)) = z at e
  obtain ⟨⟨l⟩⟩ := z
  have e' : l = cs := e
  rw [e']
end
/-- signs put together one by one: what a comprehension over range(j) of one-sign texts leaves -/
theorem lenSg (cs : List Nat) : ((⟨cs.toArray⟩ : Str)).length = cs.length := by
  show cs.toArray.size = cs.length
  simp
theorem sum_ones (cs : List Nat) : ((cs.map fun c => (⟨#[c]⟩ : Str)).map (·.length)).sum = cs.length := by
  induction cs with
  | nil => rfl
  | cons a l ih =>
    show 1 + ((l.map fun c => (⟨#[c]⟩ : Str)).map (·.length)).sum = l.length + 1
    rw [ih]
    omega
def oneSign (c : Nat) : V := .str ⟨#[c]⟩
theorem rd_joinSigns {K : PySem.W.Frag} {H : Hp} {Q : VK} {p : Addr} {cs : List Nat} (h : H p = some (.lst (cs.map oneSign))) (z : cs.length ≤ 10000) (q : Q (.str ⟨cs.toArray⟩) H) : uJoin K (.str (Str.ofString "")) [.ref p] H Q := by
  refine rd_join (ys := cs.map fun c => (⟨#[c]⟩ : Str)) ?_ ?_ ?_
  · rw [h, List.map_map]
    rfl
  · rw [sum_ones]
    have e : (Str.ofString "").length = 0 := by decide +kernel
    rw [e]
    omega
  · rw [join_signs]
    exact q
/-! ### the row of signs -/
def signs94 : Str := Str.ofString " !\"#$&'()*+,-./0123456789:;<=>?@ABCDEFGHIJKLMNOPQRSTUVWXYZ[\\]^_`abcdefghijklmnopqrstuvwxyz{|}~"
theorem signs94_len : signs94.cps.toList.length = 94 := by decide +kernel
theorem signs94_ok : ∀ c ∈ signs94.cps.toList, Sign c := by
  have h : (signs94.cps.toList.all fun c => decide (32 ≤ c ∧ c ≤ 126 ∧ c ≠ 37)) = true := by decide +kernel
  intro c hc
  exact of_decide_eq_true (p := 32 ≤ c ∧ c ≤ 126 ∧ c ≠ 37) (List.all_eq_true.mp h c hc)
theorem signs94_at {d : Int} (h0 : 0 ≤ d) (h1 : d < 94) : ∃ c, atI signs94.cps.toList d = some c ∧ Sign c := by
  obtain ⟨c, hc, _, e⟩ := atI_get (xs := signs94.cps.toList) h0 (by rw [signs94_len]; exact h1)
  exact ⟨c, e, signs94_ok c hc⟩
end FS

set_option Elab.async false
set_option linter.all false
set_option maxRecDepth 100000
set_option maxHeartbeats 4000000
namespace FS
open PySem PySem.Spec PyProof.Rows L2
theorem u_veinit {X : Cx} {K : PySem.W.Frag} {e : Expr} {es : List Expr} {ta : TA} {p1 p2 pos : Pos} {pl : Sem Bool} (hK : X.K = K) (hg : Gl X "ValueError") (hm : X.mg "ValueError" = none)
    (vV : PySem.W.findCls K (.type "ValueError") (.type "type") "__init__" = some (.val (.builtin "ValueError.__init__"))) (ha : PA X (e :: es) ta)
    (hc : eval (.Call (.Attribute (.Name "ValueError" p1) "__init__" p2) (e :: es) [] pos) X.env = (eval (.Name "ValueError" p1) X.env >>= fun ov => standAt p2.atName >>= fun _ => holding [ov] (getMethod ov "__init__" pl) >>= fun q =>
      callWith pos q.1 q.2 (backTo pos (starEach (e :: es) X.env)) (backToKw pos (keywordEach [] X.env))) := by rfl)
    (he : starEach (e :: es) X.env = (false, eval e X.env) :: starEach es X.env := by rfl) (hpl : (backTo pos (starEach es X.env)).any (·.1) = false := by rfl) :
    PE X (.Call (.Attribute (.Name "ValueError" p1) "__init__" p2) (e :: es) [] pos) (tVeI K ta) := by
  subst hK
  exact pe_veinit hg hm vV ha hc he hpl
def VeI (K : PySem.W.Frag) (vs : List V) (H1 : Hp) (Q : VK) : Prop := ∃ (a C : Addr) (ws : List V), vs = .ref a :: ws ∧ ws.length ≤ 1000 ∧ OexC K C ∧ H1 a = some (exo a C none) ∧ Q .non H1
theorem rd_vei {K : PySem.W.Frag} {ta : TA} {σ : L2.St} {H : Hp} {Q : VK} (q : ta σ H fun vs H1 => VeI K vs H1 Q) : tVeI K ta σ H Q := q
/-! ### an exception of an own class whose __init__ only tells ValueError's -/
def spFInit (K : PySem.W.Frag) : Sp := fun vs H Q _ => ∃ (a C : Addr) (v : V), vs = [.ref a, v] ∧ OexC K C ∧ H a = some (exo a C none) ∧ Q .non H
theorem del_upd {H : Hp} {a : Addr} {o : HO} (h : H a = none) : del (upd H a o) a = H := by
  funext b
  by_cases e : b = a
  · rw [e, del_same, h]
  · rw [del_ne e, upd_ne e]
section
variable {X : Cx}
/-- its end: the exception is let go, nothing else has come -/
theorem mk_bare {pins : List (Addr × Obj)} {σ : L2.St} {H1 : Hp} {Q : XK} {s1 s2 : Shared} {hp2 : Heap} {a C : Addr} (R : Raises X (.ref C)) (I1 : Inv X pins σ H1 s1)
    (ha : s1.heap.objs.size ≤ a) (k : ∀ b o, s1.heap.get? b = some o → hp2.get? b = some o)
    (un : Un (frs X.stack) [] (upd H1 a (exo a C none)) (upd H1 a (exo a C none)) hp2 s2.heap)
    (hok : HOk X.prog X.w (upd H1 a (exo a C none)) s2.heap) (ho : s2.os = s1.os) (hb : AllBare s2.gens) (q : Q (.ref C) none H1) : MkP X pins σ Q (.ref a) s2 := by
  have hn : H1 a = none := I1.hok.fresh ha
  obtain ⟨t0, hoe⟩ := exo_at hok upd_same
  obtain ⟨G, gi, gx⟩ := restrict s2.heap fun b => decide (b ≠ a)
  have same : ∀ b, b ≠ a → G.get? b = s2.heap.get? b := fun b n => gi b (decide_eq_true n)
  have gone : G.get? a = none := gx a (by simp)
  have away : ∀ {b : Addr} {o : Obj}, s1.heap.get? b = some o → b ≠ a := fun {b o} z => Nat.ne_of_lt (Nat.lt_of_lt_of_le (Heap.lt_size z) ha)
  have uu : ∀ {b : Addr}, b ≠ a → upd H1 a (exo a C none) b = H1 b := fun n => upd_ne n
  have U : Un (frs X.stack) [] H1 H1 s1.heap G := {
    keep := fun b o z n hf hx => by
      rw [same b (away z)]
      refine un.keep b o (k b o z) ?_ hf hx
      rw [uu (away z)]; exact n
    slot := fun b o z n hf hx => by
      rw [same b (away z)]
      refine un.slot b o (k b o z) ?_ hf hx
      rw [uu (away z)]; exact n
    free := fun b o z n hx => n
    there := fun b o z hx => by
      rw [same b (away z)]
      exact un.there b o (k b o z) hx
    tups := fun b xs z => z
    frzs := fun b o v z => z
    tbls := fun b ps z => ⟨#[], by rw [Array.append_empty]; exact z⟩ }
  have hok1 : HOk X.prog X.w H1 G := fun b o z => by
    have nba : b ≠ a := ne_of_none z hn
    have own : ∀ {c : Addr}, H1 c = some (.own b) → c ≠ a := fun hc => ne_of_none hc hn
    have z2 : upd H1 a (exo a C none) b = some o := by rw [uu nba]; exact z
    refine (hok b o z2).stay (fun c v hc y => ?_) (fun c hc => ?_) (fun c xs hc => ?_)
    · have nca : c ≠ a := by
        rcases hc with hc | hc
        · rw [hc]; exact nba
        · exact at_ne upd_same hc exo_own
      rw [same c nca]
      exact y
    · have nca : c ≠ a := at_ne upd_same hc exo_own
      rw [uu nca] at hc
      exact hc
    · have nca : c ≠ a := at_ne upd_same hc exo_tup
      rw [uu nca] at hc
      exact hc
  have J : Inv X pins σ H1 ⟨G, s2.gens, s2.drawn, s2.toks, s2.os⟩ := I1.call' (ch := []) ho U hok1 hb (fun b z => absurd z (by simp))
  refine ⟨a, _, _, ⟨G, s2.gens, s2.drawn, s2.toks, s2.os⟩, H1, .ref C, none, rfl, J, fun b o z => ?_, gone, hoe, ⟨rfl, rfl⟩, rfl, rfl, hn, rfl, hb, R, q⟩
  by_cases e : b = a
  · rw [e, gone] at z
    cases z
  · rw [← same b e]
    exact z
/-- C(e), C a class under FaultError -/
def tMkF (C : Addr) (te : TE) : L2.St → Hp → XK → Prop := fun σ H Q => te σ H fun x H1 => (∃ v, [x] = [v]) ∧ Q (.ref C) none H1
theorem pmk_fault {x : Str} {C fI : Addr} {k : Nat} {fd : FuncData} {ps : List Str} {e : Expr} {te : TE} {p pos : Pos} (T : OexC X.K C) (iC : PySem.W.findIn X.K (.ref C) "__init__" = some (some (.ref fI)))
    (tI : PySem.W.typeIn X.K (.ref fI) = some (.type "function")) (F1 : FnOk X.prog X.w X.K X.mg X.base CX0 k fI fd ps (spFInit X.K)) (hr : Room (k + 1) X.A) (hb : Binds X.K fd ps []) (hg : Gl X x) (hm : X.mg x = some (.ref C)) (ha : PE X e te)
    (hdb : (x == ("__debug__" : Str)) = false := by decide) (he : starEach [e] X.env = [(false, eval e X.env)] := by rfl) :
    PMk X (.Call (.Name x p) [e] [] pos) (tMkF C te) := by
  intro pins s σ H Q I h
  obtain ⟨nm, q, N, bs, bm, sn, sub, ab, col, dd, k0, k1, k2, k3, k5, hC, hbm⟩ := T.cls
  have hA : PA X [e] (tCons te tNil) := pa_cons ha pa_nil he
  have h' : tCons te tNil σ H (fun vs H1 => (∃ v, vs = [v]) ∧ Q (.ref C) none H1) := h
  refine wpAny_Call_Name_kw (ld_glob I hg hm ?_ hdb)
  refine PySem.W.callWith_K (h₀ := X.base) I.ok.mod.kin T.kC (thn (hA.run pos pins s σ H _ I h') fun us s1 ⟨vs, H1, I1, r1, ⟨v, ev⟩, q1⟩ => ⟨I1.kIn, ?_⟩) he rfl
  subst ev
  show wpAny _ _ (call (.ref C) us) _ _ _
  obtain ⟨hp, g, dr, tk, os⟩ := s1
  have big : hp.objs.size ≤ hp.objs.size + 1 := Nat.le_succ _
  have fr : H1 (hp.objs.size + 1) = none := I1.hok.fresh big
  have kk : ∀ b o, hp.get? b = some o → ((hp.push (PySem.W.kdv_tup us)).push (PySem.HandSPX.excO C hp.objs.size)).get? b = some o :=
    fun b o e => Heap.get?_push_of_some _ (Heap.get?_push_of_some _ e)
  have gt : ((hp.push (PySem.W.kdv_tup us)).push (PySem.HandSPX.excO C hp.objs.size)).get? (hp.objs.size + 1) = some (PySem.HandSPX.excO C hp.objs.size) := by heap_get
  have I2 : Inv X pins σ (upd H1 (hp.objs.size + 1) (exo (hp.objs.size + 1) C none)) ⟨(hp.push (PySem.W.kdv_tup us)).push (PySem.HandSPX.excO C hp.objs.size), g, dr, tk, os⟩ :=
    I1.laid (t' := tk) kk big (exo_ok gt)
  have r2 : Vals [V.ref (hp.objs.size + 1), v] (Value.ref (hp.objs.size + 1) :: us) := .cons rfl r1
  have sp0 : spFInit X.K [V.ref (hp.objs.size + 1), v] (upd H1 (hp.objs.size + 1) (exo (hp.objs.size + 1) C none))
      (fun w H2 => w = .non ∧ H2 = upd H1 (hp.objs.size + 1) (exo (hp.objs.size + 1) C none)) (fun _ _ _ => False) := ⟨_, C, v, rfl, T, upd_same, rfl, rfl⟩
  have hl : (Value.ref (hp.objs.size + 1) :: us).length = ps.length := by
    rw [← r2.length]
    exact F1.len _ _ _ _ sp0
  have one : us.length ≤ sizeLine := by
    rw [← Paired.length r1]
    exact (by decide : 1 ≤ sizeLine)
  have bb := hb ⟨(hp.push (PySem.W.kdv_tup us)).push (PySem.HandSPX.excO C hp.objs.size), g, dr, tk, os⟩ (Value.ref (hp.objs.size + 1) :: us) I2.kIn (by rw [List.append_nil]; exact hl)
  rw [List.append_nil] at bb
  refine wpAny_call (PySem.HandSPX.call_own F.excBase_ValueError (fun Y => PySem.HandSPX.refsVE_contains Y bm hbm) (I1.kIn _ _ hC) (PySem.W.looks_findIn I1.kIn iC) (fun self => PySem.W.bind_fn I1.kIn self tI) one
    (codeAny_mono (F1.run _ X.stack _ _ _ _ _ _ (fun _ _ _ => False) (hr.make C us []) (I2.env0.make C us []) bb r2 sp0) fun r s' hq => ?_))
  cases r with
  | error er => exact False.elim hq
  | ok fl =>
    cases fl with
    | ret u =>
      obtain ⟨w, H2, os2, bare2, un2, hok2, rv, ew, eH⟩ := hq
      subst ew eH
      exact ⟨rv, mk_bare (s1 := ⟨hp, g, dr, tk, os⟩) (raises_own T.exC T.tyC) I1 big kk un2 hok2 os2 bare2 q1⟩
    | next => exact False.elim hq
    | brk => exact False.elim hq
    | cont => exact False.elim hq
/-- what the text says of an own class under ValueError, by its name -/
structure ExcX (K : PySem.W.Frag) (x : Str) : Prop where
  o : OexC K (He.ga K x)
  e : ExcC K (He.ga K x)
  i : PySem.W.findIn K (.ref (He.ga K x)) "__init__" = some (some (.ref (He.ma K (He.ga K "FaultError") "__init__")))
  ty : PySem.W.typeIn K (.ref (He.ma K (He.ga K "FaultError") "__init__")) = some (.type "function")
  ve : PySem.W.kitOne K (.ref (He.ga K x)) (.type "ValueError") = some true
  fe : PySem.W.exmOne K (.ref (He.ga K x)) (.ref (He.ga K "FaultError")) = some true
/-! ### isinstance of the exception that stands pinned -/
/-- (a, oe) is an exception of the own class at D, without a dict -/
structure PinX (K : PySem.W.Frag) (D : Addr) (p : Addr × Obj) : Prop where
  c : ExcC K D
  z : Zc (.ref D) none p.2
  f : ∃ vs, p.2.data = .fields vs
def rIsP (K : PySem.W.Frag) (p : Addr × Obj) (xs : List V) (H : Hp) (Q : VK) : Prop :=
  ∃ (D : Addr) (c : V) (u : Value) (b : Bool), PinX K D p ∧ xs = [.ref p.1, c] ∧ ClsV c u ∧ PySem.W.kitOne K (.ref D) u = some b ∧ Q (.bl b) H
def rIsPT (K : PySem.W.Frag) (p : Addr × Obj) (xs : List V) (H : Hp) (Q : VK) : Prop :=
  ∃ (D tp : Addr) (cs : List V) (us : List Value) (b : Bool), PinX K D p ∧ xs = [.ref p.1, .ref tp] ∧ H tp = some (.tup cs) ∧ Paired ClsV cs us ∧ PySem.W.kitAny K (.ref D) us = some b ∧ Q (.bl b) H
theorem pin_inst {K : PySem.W.Frag} {D : Addr} {p : Addr × Obj} {h : Heap} (x : PinX K D p) (hg : h.get? p.1 = some p.2) : PySem.W.InstAt h p.1 p.2 D none := by
  obtain ⟨a, ⟨oc, od, oda, osl⟩⟩ := p
  obtain ⟨_, ⟨z1, z2⟩, vs, z3⟩ := x
  have e1 : oc = .ref D := z1
  have e2 : od = none := z2
  have e3 : oda = .fields vs := z3
  subst e1 e2 e3
  exact ⟨hg, rfl, rfl, trivial⟩
theorem is_pin {K : PySem.W.Frag} {p : Addr × Obj} (hK : X.K = K) (hp : p ∈ X.pn) : CallR X (.builtin "isinstance") (rIsP K p) := by
  subst hK
  intro pins s σ H xs us Q I r h
  obtain ⟨D, c, u, b, px, rfl, k, e, q⟩ := h
  obtain ⟨u1, u2, rfl, r1, r2⟩ := vals2 r
  have e2 := k.eq r2
  subst e2
  cases (show u1 = Value.ref p.1 from r1)
  have J := pin_inst px (I.pin p (List.mem_append_left _ hp)).1
  have C := px.c
  exact PySem.W.kia_one (PySem.W.handS_kitx_exc C.hg C.hk C.hs C.hd C.ha C.hn C.ht C.hm) I.kIn J e (fun z => nomatch z) fun tk => ⟨.bl b, H, I.tok tk, rfl, q⟩
theorem is_pinT {K : PySem.W.Frag} {p : Addr × Obj} (hK : X.K = K) (hp : p ∈ X.pn) : CallR X (.builtin "isinstance") (rIsPT K p) := by
  subst hK
  intro pins s σ H xs us Q I r h
  obtain ⟨D, tp, cs, ws, b, px, rfl, hT, k, e, q⟩ := h
  obtain ⟨u1, u2, rfl, r1, r2⟩ := vals2 r
  cases (show u2 = Value.ref tp from r2)
  cases (show u1 = Value.ref p.1 from r1)
  have J := pin_inst px (I.pin p (List.mem_append_left _ hp)).1
  have C := px.c
  obtain ⟨_, its, rv, o, h1, h2, n, h3⟩ := (show ObjOk X.prog X.w H s.heap tp (.tup cs) from I.hok tp _ hT)
  have e3 := ClsV.all k rv
  subst e3
  obtain ⟨oc, od, dt, sl⟩ := o
  simp only at h2 h3
  subst h2 h3
  exact PySem.W.kia_tup (PySem.W.handS_kitx_exc C.hg C.hk C.hs C.hd C.ha C.hn C.ht C.hm) I.kIn J h1 e (fun z => nomatch z) fun tk => ⟨.bl b, H, I.tok tk, rfl, q⟩
end
/-! ### a def of one parameter, called in an except suite with the exception itself -/
abbrev SpE := Addr → Hp → VK → Prop
structure FnE (P : Program) (w : World) (K : PySem.W.Frag) (mg : Str → Option Value) (base : Heap) (k : Nat) (f : Addr) (sp : SpE) : Prop where
  run : ∀ (A : Around) (outer : List Env) (s : Shared) (H : Hp) (Q : VK) (D : Addr) (p : Addr × Obj), L2H.RoomH k A → L2H.PinOk outer H s p → PinX K D p → Env0 P w K mg base A outer s H → sp D H Q →
    codeAny (model P w) A (.call (.ref f) ⟨[.ref p.1], []⟩) (CR CX0 outer P w H s Q E0) s
theorem fnE_of {P : Program} {w : World} {K : PySem.W.Frag} {mg : Str → Option Value} {base : Heap} {k : Nat} {n : Str × Option Str} {x q y : Str} {st : Stmt} {N : List Str} {sp : SpE} (F : FD K n x q st) (S : FnScope N [y] (defScope st)) (hb : Binds K (fdOf K n) [y] [])
    (body : ∀ (cdv : Value) (A : Around) (outer : List Env) (s : Shared) (H : Hp) (Q : VK) (D : Addr) (p : Addr × Obj), L2H.RoomH k (A.deeper (envOfC q (defScope st) s.heap.objs.size (He.fAd K n) cdv)) → PinX K D p → sp D H Q →
      ∃ t, PSs (L2H.cxH CX0 P w K mg base N q (defScope st) (He.fAd K n) cdv A outer s H E0 p) (defBody st) t ∧ t { nx := fun _ H' => Q .non H', rt := Q } (start N [.ref p.1]) H) :
    FnE P w K mg base (k + 1) (He.fAd K n) sp := by
  obtain ⟨oc, od, dV, kV, doc, pm, an, cdv, ct, osl, e, lk, hcd, _, _⟩ := F.ex
  rw [e] at lk hb
  refine ⟨fun A outer s H Q D p hr pin px e0 hsp => ?_⟩
  have KX : K.In s.heap := e0.mod.kin.keeps fun b o z => (e0.bs b o z).1
  have lim : s.heap.NoLimit := e0.mod.nolimit.keeps fun b o z => (e0.bs b o z).1
  have bb := hb s [Value.ref p.1] KX rfl
  rw [List.append_nil] at bb
  have hkind : ∀ z ∈ [y].zip [Value.ref p.1], (defScope st).names.lookup z.1 = some .local ∨ ((defScope st).names.lookup z.1 = some .cell ∧ ((cellsFrom (s.heap.objs.size + 1) (defScope st).names []).lookup z.1).isSome = true) := by
    intro z hz
    have e1 : z.1 ∈ [y] := (List.of_mem_zip (a := z.1) (b := z.2) hz).1
    rcases S.par z.1 e1 with h | h
    · exact .inl h
    · exact .inr ⟨h, PySem.W.cellsFrom_some _ _ _ (.inl h)⟩
  refine codeAny_call_function hr.depth (KX _ _ lk) rfl S.co S.gen rfl (PySem.W.codeRec_of KX hcd) (bb _ _ _ _ ?_)
  refine wpAny_newFunctionEnv_cells S.kind hkind fun env he s1 z => ?_
  subst he
  refine ⟨lim.keeps z.toInCall.keep, codeAny_func ?_⟩
  obtain ⟨t, ht, hq⟩ := body cdv A outer s H Q D p (hr.deeper _) px hsp
  have I := L2H.inv_startH (CX := CX0) (E := E0) S pin e0 (vs := [V.ref p.1]) (us := [Value.ref p.1]) rfl (.cons rfl .nil) z
  refine wpAny_mono (ht.run [] s1 _ H _ I hq) (fun fl s' hs => ?_) fun e s' hs => hs
  cases fl with
  | ret u =>
    obtain ⟨v, σ', H', J, rv, q⟩ := hs
    exact ⟨v, H', J.os, J.bare, J.base, J.hok, rv, q⟩
  | next =>
    obtain ⟨σ', H', J, q⟩ := hs
    exact ⟨.non, H', J.os, J.bare, J.base, J.hok, rfl, q⟩
  | brk =>
    obtain ⟨_, _, _, q⟩ := hs
    exact False.elim q
  | cont =>
    obtain ⟨_, _, _, q⟩ := hs
    exact False.elim q
/-- f(e) there -/
def tCallE (K : PySem.W.Frag) (p : Addr × Obj) (sp : SpE) (te : TE) : TE := fun σ H Q => te σ H fun x H1 => ∃ D, PinX K D p ∧ x = .ref p.1 ∧ sp D H1 Q
theorem pe_callE {X : Cx} {K : PySem.W.Frag} {k : Nat} {f : Addr} {sp : SpE} {x : Str} {e : Expr} {te : TE} {q pos : Pos} {p : Addr × Obj} (hK : X.K = K) (hp : p ∈ X.pn) (F : FnE X.prog X.w X.K X.mg X.base k f sp) (hr : L2H.RoomH k X.A) (hg : Gl X x) (hm : X.mg x = some (.ref f))
    (hk : PySem.W.keepIn X.K (.ref f) = true) (ha : PE X e te) (hdb : (x == ("__debug__" : Str)) = false := by decide) (he : starEach [e] X.env = [(false, eval e X.env)] := by rfl) : PE X (.Call (.Name x q) [e] [] pos) (tCallE K p sp te) := by
  subst hK
  refine ⟨fun pins s σ H Q I h => ?_⟩
  have hA : PA X [e] (tCons te tNil) := pa_cons ha pa_nil he
  have h' : tCons te tNil σ H (fun vs H1 => ∃ D, PinX X.K D p ∧ vs = [.ref p.1] ∧ sp D H1 Q) := by
    have h0 : te σ H fun x H1 => ∃ D, PinX X.K D p ∧ x = .ref p.1 ∧ sp D H1 Q := h
    have e0 : (fun (x : V) (H1 : Hp) => ∃ D, PinX X.K D p ∧ x = .ref p.1 ∧ sp D H1 Q) = fun x H1 => ∃ D, PinX X.K D p ∧ [x] = [.ref p.1] ∧ sp D H1 Q := by
      funext x H1
      simp
    rw [e0] at h0
    exact h0
  refine wpAny_Call_Name_kw (ld_glob I hg hm ?_ hdb)
  refine PySem.W.callWith_K (h₀ := X.base) I.ok.mod.kin hk (thn (hA.run pos pins s σ H _ I h') fun us s1 ⟨vs, H1, I1, r, D, px, ev, q1⟩ => ⟨I1.kIn, ?_⟩) he rfl
  subst ev
  cases r with
  | cons r1 r2 =>
    cases r2
    cases r1
    have P1 := I1.pin p (List.mem_append_left _ hp)
    have pin : L2H.PinOk X.stack H1 s1 p := ⟨P1.1, P1.2.1, fun z => (List.mem_cons.mp (I1.stkSub p.1 z)).elim P1.2.2.1 P1.2.2.2.1, P1.2.2.2.2⟩
    refine wpAny_call (codeAny_mono (F.run X.A X.stack s1 H1 Q D p hr pin px I1.env0 q1) fun r s' hq => ?_)
    cases r with
    | error e => exact False.elim hq
    | ok fl =>
      cases fl with
      | ret u => exact I1.after hq
      | next => exact False.elim hq
      | brk => exact False.elim hq
      | cont => exact False.elim hq
/-! ### the same in the suite itself: told by the class and the dict that the clause hands on -/
theorem roomS {k j : Nat} {A : Around} {v : Option Value} (hr : Room k A) (h : j ≤ k) : L2H.RoomH j (A.mark v) := ⟨((L2H.roomH_of hr).mono h).dp, ((L2H.roomH_of hr).mono h).un⟩
def rIsS (K : PySem.W.Frag) (a : Addr) (cls : Value) (d : Option Addr) (xs : List V) (H : Hp) (Q : VK) : Prop :=
  ∃ (D : Addr) (c : V) (u : Value) (b : Bool), cls = .ref D ∧ d = none ∧ ExcC K D ∧ xs = [.ref a, c] ∧ ClsV c u ∧ PySem.W.kitOne K (.ref D) u = some b ∧ Q (.bl b) H
def rIsST (K : PySem.W.Frag) (a : Addr) (cls : Value) (d : Option Addr) (xs : List V) (H : Hp) (Q : VK) : Prop :=
  ∃ (D tp : Addr) (cs : List V) (us : List Value) (b : Bool), cls = .ref D ∧ d = none ∧ ExcC K D ∧ xs = [.ref a, .ref tp] ∧ H tp = some (.tup cs) ∧ Paired ClsV cs us ∧ PySem.W.kitAny K (.ref D) us = some b ∧ Q (.bl b) H
def tCallS1 (K : PySem.W.Frag) (a : Addr) (cls : Value) (d : Option Addr) (sp : SpE) (te : TE) : TE := fun σ H Q => te σ H fun x H1 => ∃ D, cls = .ref D ∧ d = none ∧ ExcC K D ∧ x = .ref a ∧ sp D H1 Q
section
variable {X : Cx} {K : PySem.W.Frag} {a : Addr} {oe : Obj} {cls : Value} {d : Option Addr} {pn : List (Addr × Obj)}
theorem is_s (hK : X.K = K) (hz : Zc cls d oe) (hf : ∃ vs, oe.data = .fields vs) : CallR (X.suite a ((a, oe) :: pn)) (.builtin "isinstance") (rIsS K a cls d) := by
  intro pins s σ H xs us Q I r h
  obtain ⟨D, c, u, b, rfl, rfl, hC, e, rest⟩ := h
  exact is_pin (X := X.suite a ((a, oe) :: pn)) (p := (a, oe)) hK (List.mem_cons_self ..) pins s σ H xs us Q I r ⟨D, c, u, b, ⟨hC, hz, hf⟩, e, rest⟩
theorem is_sT (hK : X.K = K) (hz : Zc cls d oe) (hf : ∃ vs, oe.data = .fields vs) : CallR (X.suite a ((a, oe) :: pn)) (.builtin "isinstance") (rIsST K a cls d) := by
  intro pins s σ H xs us Q I r h
  obtain ⟨D, tp, cs, ws, b, rfl, rfl, hC, e, rest⟩ := h
  exact is_pinT (X := X.suite a ((a, oe) :: pn)) (p := (a, oe)) hK (List.mem_cons_self ..) pins s σ H xs us Q I r ⟨D, tp, cs, ws, b, ⟨hC, hz, hf⟩, e, rest⟩
theorem pe_callS1 {k : Nat} {f : Addr} {sp : SpE} {x : Str} {e : Expr} {te : TE} {q pos : Pos} (hK : X.K = K) (hz : Zc cls d oe) (hf : ∃ vs, oe.data = .fields vs) (F : FnE X.prog X.w X.K X.mg X.base k f sp) (hr : L2H.RoomH k (X.suite a ((a, oe) :: pn)).A)
    (hg : Gl (X.suite a ((a, oe) :: pn)) x) (hm : X.mg x = some (.ref f)) (hk : PySem.W.keepIn X.K (.ref f) = true) (ha : PE (X.suite a ((a, oe) :: pn)) e te) (hdb : (x == ("__debug__" : Str)) = false := by decide) (he : starEach [e] X.env = [(false, eval e X.env)] := by rfl) :
    PE (X.suite a ((a, oe) :: pn)) (.Call (.Name x q) [e] [] pos) (tCallS1 K a cls d sp te) := by
  refine ⟨fun pins s σ H Q I h => ?_⟩
  by_cases hd : ∃ D, cls = .ref D ∧ d = none ∧ ExcC K D
  · obtain ⟨D, e1, e2, hC⟩ := hd
    have px : PinX K D (a, oe) := ⟨hC, by rw [← e1, ← e2]; exact hz, hf⟩
    refine (pe_callE (X := X.suite a ((a, oe) :: pn)) (p := (a, oe)) hK (List.mem_cons_self ..) F hr hg hm hk ha hdb he).run pins s σ H Q I ?_
    have h0 : te σ H fun x H1 => ∃ D', cls = .ref D' ∧ d = none ∧ ExcC K D' ∧ x = .ref a ∧ sp D' H1 Q := h
    have eq : (fun (x : V) (H1 : Hp) => ∃ D', cls = .ref D' ∧ d = none ∧ ExcC K D' ∧ x = .ref a ∧ sp D' H1 Q) = fun x H1 => ∃ D', PinX K D' (a, oe) ∧ x = .ref (a, oe).1 ∧ sp D' H1 Q := by
      funext x H1
      refine propext ⟨fun ⟨D', f1, f2, f3, f4, f5⟩ => ⟨D', ⟨f3, by rw [← f1, ← f2]; exact hz, hf⟩, f4, f5⟩, fun ⟨D', f1, f2, f3⟩ => ?_⟩
      have e3 : D' = D := by
        have z1 := f1.z.1
        have z2 := px.z.1
        rw [z1] at z2
        exact Value.ref.inj z2
      subst e3
      exact ⟨_, e1, e2, hC, f2, f3⟩
    rw [eq] at h0
    exact h0
  · have h0 : te σ H fun x H1 => ∃ D', cls = .ref D' ∧ d = none ∧ ExcC K D' ∧ x = .ref a ∧ sp D' H1 Q := h
    have eq : (fun (x : V) (H1 : Hp) => ∃ D', cls = .ref D' ∧ d = none ∧ ExcC K D' ∧ x = .ref a ∧ sp D' H1 Q) = fun x H1 => ∃ D', PinX K D' (a, oe) ∧ x = .ref (a, oe).1 ∧ (False ∧ sp D' H1 Q) := by
      funext x H1
      refine propext ⟨fun ⟨D', f1, f2, f3, _⟩ => (hd ⟨D', f1, f2, f3⟩).elim, fun ⟨_, _, _, f, _⟩ => f.elim⟩
    rw [eq] at h0
    have F0 : FnE X.prog X.w X.K X.mg X.base k f (fun D H Q => False ∧ sp D H Q) := ⟨fun _ _ _ _ _ _ _ _ _ _ _ z => z.1.elim⟩
    exact (pe_callE (X := X.suite a ((a, oe) :: pn)) (p := (a, oe)) hK (List.mem_cons_self ..) F0 hr hg hm hk ha hdb he).run pins s σ H Q I h0
end
section
variable {K : PySem.W.Frag} {σ : L2.St} {H : Hp} {Q : VK} {te : TE} {ta : TA}
theorem rd_callS {sp : Sp} {E : L2.St → XK} (q : ta σ H fun vs H1 => sp vs H1 Q (E σ)) : tCallS sp E ta σ H Q := q
def CS1 (K : PySem.W.Frag) (a : Addr) (cls : Value) (d : Option Addr) (sp : SpE) (x : V) (H : Hp) (Q : VK) : Prop := ∃ D, cls = .ref D ∧ d = none ∧ ExcC K D ∧ x = .ref a ∧ sp D H Q
theorem rd_callS1 {a : Addr} {cls : Value} {d : Option Addr} {sp : SpE} (q : te σ H fun x H1 => CS1 K a cls d sp x H1 Q) : tCallS1 K a cls d sp te σ H Q := q
theorem rd_cs1 {a D : Addr} {sp : SpE} (C : ExcC K D) (q : sp D H Q) : CS1 K a (.ref D) none sp (.ref a) H Q := ⟨D, rfl, rfl, C, rfl, q⟩
theorem rd_isS {a D : Addr} {c : V} {u : Value} {b : Bool} (C : ExcC K D) (k : ClsV c u) (e : PySem.W.kitOne K (.ref D) u = some b) (q : Q (.bl b) H) : rIsS K a (.ref D) none [.ref a, c] H Q := ⟨D, c, u, b, rfl, rfl, C, rfl, k, e, q⟩
end
end FS

set_option Elab.async false
set_option linter.all false
set_option maxRecDepth 100000
set_option maxHeartbeats 4000000
namespace FS
open PySem PySem.Spec PyProof.Rows L2
/-! ### a def that wants to know that nothing is being shown around it (it asks repr of lists) -/
structure FnG (P : Program) (w : World) (K : PySem.W.Frag) (mg : Str → Option Value) (base : Heap) (k : Nat) (f : Addr) (fd : FuncData) (ps : List Str) (sp : Sp) : Prop where
  len : ∀ vs H Q E, sp vs H Q E → vs.length = ps.length
  run : ∀ (A : Around) (outer : List Env) (s : Shared) (H : Hp) (args : Args) (us : List Value) (vs : List V) (Q : VK), A.guards = some [] → Room k A → Env0 P w K mg base A outer s H → BindsTo s fd args (ps.zip us) → Vals vs us → sp vs H Q E0 →
    codeAny (model P w) A (.call (.ref f) args) (CR CX0 outer P w H s Q E0) s
abbrev GO (P : Program) (w : World) (K : PySem.W.Frag) (mg : Str → Option Value) (base : Heap) (k : Nat) (p : Str × Option Str) (ps : List Str) (sp : Sp) : Prop :=
  FnG P w K mg base k (He.fAd K p) (fdOf K p) ps sp
theorem okG {P : Program} {w : World} {K : PySem.W.Frag} {mg : Str → Option Value} {base : Heap} {k : Nat} {n : Str × Option Str} {x q : Str} {st : Stmt} {N ps : List Str} {sp : Sp} (F : FD K n x q st) (S : FnScope N ps (defScope st))
    (len : ∀ vs H Q E, sp vs H Q E → vs.length = ps.length)
    (body : ∀ (cdv : Value) (A : Around) (outer : List Env) (s : Shared) (H : Hp) (vs : List V) (Q : VK), (A.deeper (envOfC q (defScope st) s.heap.objs.size (He.fAd K n) cdv)).guards = some [] → Room k (A.deeper (envOfC q (defScope st) s.heap.objs.size (He.fAd K n) cdv)) → sp vs H Q E0 →
      ∃ t, PSs (cxOf CX0 P w K mg base N q (defScope st) (He.fAd K n) cdv A outer s H E0).nox (defBody st) t ∧ t { nx := fun _ H' => Q .non H', rt := Q } (start N vs) H) :
    GO P w K mg base (k + 1) n ps sp := by
  obtain ⟨oc, od, dV, kV, doc, pm, an, cdv, ct, osl, e, lk, hcd, _, _⟩ := F.ex
  rw [e] at lk
  refine ⟨len, fun A outer s H args us vs Q hg hr e0 hb r hsp => ?_⟩
  have hl := len _ _ _ _ hsp
  rw [e] at hb
  have KX : K.In s.heap := e0.mod.kin.keeps fun b o z => (e0.bs b o z).1
  have lim : s.heap.NoLimit := e0.mod.nolimit.keeps fun b o z => (e0.bs b o z).1
  have kinds : ∀ y ∈ ps.zip us, (defScope st).names.lookup y.1 = some .local ∨ ((defScope st).names.lookup y.1 = some .cell ∧ ((cellsFrom (s.heap.objs.size + 1) (defScope st).names []).lookup y.1).isSome = true) := by
    intro y hy
    rcases S.par y.1 (List.of_mem_zip (a := y.1) (b := y.2) hy).1 with h | h
    · exact .inl h
    · exact .inr ⟨h, PySem.W.cellsFrom_some _ _ _ (.inl h)⟩
  refine codeAny_call_function hr.depth (KX _ _ lk) rfl S.co S.gen rfl (PySem.W.codeRec_of KX hcd) (hb _ _ _ _ ?_)
  refine wpAny_newFunctionEnv_cells S.kind kinds fun env he s1 z => ?_
  subst he
  refine ⟨lim.keeps z.toInCall.keep, codeAny_func ?_⟩
  obtain ⟨t, ht, hq⟩ := body cdv A outer s H vs Q hg (hr.deeper _) hsp
  have I := inv_start (CX := CX0) (E := E0) S hr.hd e0 hl r z
  refine wpAny_mono (ht.nox.run [] s1 _ H _ I hq) (fun fl s' hs => ?_) fun e s' hs => hs
  cases fl with
  | ret u =>
    obtain ⟨v, σ', H', J, rv, q⟩ := hs
    exact ⟨v, H', J.os, J.bare, J.base, J.hok, rv, q⟩
  | next =>
    obtain ⟨σ', H', J, q⟩ := hs
    exact ⟨.non, H', J.os, J.bare, J.base, J.hok, rfl, q⟩
  | brk =>
    obtain ⟨_, _, _, q⟩ := hs
    exact False.elim q
  | cont =>
    obtain ⟨_, _, _, q⟩ := hs
    exact False.elim q
/-- f(e, ..) of such a def -/
theorem pe_callG {X : Cx} {k : Nat} {f : Addr} {fd : FuncData} {ps : List Str} {sp : Sp} {x : Str} {e : Expr} {es : List Expr} {t : TA} {p pos : Pos} (hgd : X.A.guards = some []) (F : FnG X.prog X.w X.K X.mg X.base k f fd ps sp) (hr : Room k X.A) (hg : Gl X x) (hm : X.mg x = some (.ref f))
    (hk : PySem.W.keepIn X.K (.ref f) = true) (hb : Binds X.K fd ps []) (ha : PA X (e :: es) t) (hdb : (x == ("__debug__" : Str)) = false := by decide) (he : starEach (e :: es) X.env = (false, eval e X.env) :: starEach es X.env := by rfl)
    (hpl : (backTo pos (starEach es X.env)).any (·.1) = false := by rfl) : PE X (.Call (.Name x p) (e :: es) [] pos) (tCall sp [] E0 t) := by
  refine ⟨fun pins s σ H Q I h => ?_⟩
  refine wpAny_Call_Name_kw (ld_glob I hg hm ?_ hdb)
  refine PySem.W.callWith_K (h₀ := X.base) I.ok.mod.kin hk (thn (ha.run pos pins s σ H _ I h) fun us s1 ⟨vs, H1, I1, r1, q1⟩ => ⟨I1.kIn, ?_⟩) he hpl
  have q1 : sp (vs ++ []) H1 Q E0 := q1
  rw [List.append_nil] at q1
  have hl : us.length = ps.length := by rw [← r1.length]; exact F.len _ _ _ _ q1
  have b := hb s1 us I1.kIn (by rw [List.append_nil]; exact hl)
  rw [List.append_nil] at b
  refine wpAny_call (codeAny_mono (F.run X.A X.stack s1 H1 ⟨us, []⟩ us vs Q hgd hr I1.env0 b r1 q1) fun r s' hq => ?_)
  cases r with
  | error e => exact False.elim hq
  | ok fl =>
    cases fl with
    | ret u => exact I1.after hq
    | next => exact False.elim hq
    | brk => exact False.elim hq
    | cont => exact False.elim hq
/-! ### the law's end for such a law -/
theorem law_callG {P : Program} {w : World} {K : PySem.W.Frag} {mg mb : Str → Option Value} {k : Nat} {fa a : Addr} {fd : FuncData} {x : Str} {sp : Sp} {s₁ : Shared} {vs : List Value} {ns : List Int}
    (KX : K.In s₁.heap) (hns : s₁.heap.Ns mainGlobals mg) (hb : s₁.heap.Ns builtinsNs mb) (hbb : ∀ x : Str, x ≠ "__name__" → mb x = bootBuiltins x) (hlim : s₁.heap.NoLimit) (hg : s₁.gens = #[])
    (ha : s₁.heap.get? a = some { cls := .type "list", data := .seq vs.toArray }) (hi : IntsAre vs ns) (hl : ns.length ≤ sizeLine) (hr : Room k callerA)
    (F : ∀ base : Heap, K.In base → base.Ns mainGlobals mg → FnG P w K mg base k fa fd [x] sp) (hbind : ∀ (s : Shared) (u : Value), BindsTo s fd ⟨[u], []⟩ [(x, u)])
    (hsp : ∀ H : Hp, Only H → SqL K H a (ns.map V.int) → sp [.ref a] H (fun v _ => v = .bl true) E0) :
    codeAny (model P w) callerA (.call (.ref fa) ⟨[.ref a], []⟩) (fun r s' => r = .ok (.ret (.bool true)) ∧ OldK s₁.heap s'.heap ∧ s'.os = s₁.os ∧ AllBare s'.gens) s₁ := by
  have rel := vals_ints hi
  have many := hi.length
  have core : ∀ H : Hp, Only H → SqL K H a (ns.map V.int) → HOk P w H s₁.heap → (∀ b, H b ≠ none → b = a) → (H a ≠ none → K.lookup a = none) →
      codeAny (model P w) callerA (.call (.ref fa) ⟨[.ref a], []⟩) (fun r s' => r = .ok (.ret (.bool true)) ∧ OldK s₁.heap s'.heap ∧ s'.os = s₁.os ∧ AllBare s'.gens) s₁ := by
    intro H hO hS hok only out
    have here : ∀ {b : Addr} {o : Obj}, s₁.heap.get? b = some o → H b = none → (hidT s₁.heap H).get? b = some o := fun z n => hidT_get z n
    have isA : ∀ {b : Addr}, H b ≠ none → b = a := fun {b} z => only b z
    have noDict : ∀ {b : Addr} {o : Obj} {es : Array DictEntry} {ep : Nat}, s₁.heap.get? b = some o → o.data = .dict es ep → H b = none := by
      intro b o es ep z d
      by_cases h : H b = none
      · exact h
      · have zb := isA h
        subst zb
        rw [ha] at z
        cases z
        cases d
    have nsAt : ∀ {b : Addr} {m : Str → Option Value}, s₁.heap.Ns b m → (hidT s₁.heap H).Ns b m := fun ⟨o, es, ep, z, d, r⟩ => ⟨o, es, ep, here z (noDict z d), d, r⟩
    have KH : K.In (hidT s₁.heap H) := by
      intro b o z
      refine here (KX b o z) ?_
      by_cases h : H b = none
      · exact h
      · have zb := isA h
        subst zb
        rw [out h] at z
        cases z
    have M : Mod K mg (hidT s₁.heap H) := ⟨KH, nsAt hns, ⟨mb, nsAt hb, hbb⟩, let ⟨mc, h1, h2⟩ := hlim; ⟨mc, nsAt h1, h2⟩⟩
    have e0 : Env0 P w K mg (hidT s₁.heap H) callerA [] s₁ H := ⟨rfl, M, fun b o z => of_hidT z, Nat.le_of_eq (hidT_size _ _), trivial, fun b z => absurd (show b ∈ ([] : List Addr) from z) (by simp), hok, .of_eq hg⟩
    refine codeAny_mono ((F _ KH (nsAt hns)).run callerA [] s₁ H ⟨[.ref a], []⟩ [.ref a] [.ref a] _ rfl hr e0 (hbind s₁ (.ref a)) (.cons rfl .nil) (hsp H hO hS)) fun r s' h => ?_
    cases r with
    | error e => exact False.elim h
    | ok fl =>
      cases fl with
      | next => exact False.elim h
      | brk => exact False.elim h
      | cont => exact False.elim h
      | ret u =>
        obtain ⟨v, H', os, bare, un, hok2, rv, q⟩ := h
        cases (show v = .bl true from q)
        cases (show u = Value.bool true from rv)
        refine ⟨rfl, OldK.of_keep fun b o z => ?_, os, bare⟩
        by_cases h : H b = none
        · exact un.keep b o z h (fun y => absurd (show b ∈ ([] : List Addr) from y) (by simp)) (by simp)
        · rcases hO b with y | ⟨ob, xs, y⟩
          · exact absurd y h
          · obtain ⟨e1, _⟩ := hok b _ y
            obtain ⟨e2, _⟩ := hok2 b _ (un.frzs b ob _ y)
            rw [z] at e1
            cases e1
            exact e2
  cases hk : K.lookup a with
  | some o =>
    have z := KX a o hk
    rw [ha] at z
    cases z
    refine core (fun _ => none) (fun _ => .inl rfl) (.inr ⟨_, vs.toArray, _, hk, rfl, rfl, rfl, by rw [List.size_toArray, many]; exact hl, by simpa using rel⟩) (fun b u y => ?_) (fun b y => absurd rfl y) fun y => absurd rfl y
    cases (show (none : Option HO) = some u from y)
  | none =>
    refine core (fun b => if b = a then some (.frz { cls := .type "list", data := .seq vs.toArray } (.lst (ns.map V.int))) else none) (fun b => ?_) (.inl (.inr ⟨{ cls := .type "list", data := .seq vs.toArray }, if_pos rfl⟩)) (fun b u y => ?_) (fun b y => ?_) fun _ => hk
    · by_cases h : b = a
      · exact .inr ⟨_, _, if_pos h⟩
      · exact .inl (if_neg h)
    · by_cases h : b = a
      · have y2 := (if_pos h).symm.trans y
        cases y2
        subst h
        exact ⟨ha, by rw [List.length_map]; exact hl, vs, _, rel, ha⟩
      · have y2 := (if_neg h).symm.trans y
        cases y2
    · by_cases h : b = a
      · exact h
      · exact absurd (if_neg h) y
theorem walk_ofG {l : PySem.W.OpenLaw} {n k : Nat} {q : Program} {loose : List Str} {XP : (Str → Option Value) → Heap → Prop} {YP : World → Heap → Prop} {d : DefRec} {x : Str}
    (hn : l.most = some n) (hn2 : n ≤ sizeLine) (hdf : d.params.defaults = []) (hr : Room k callerA)
    (F : ∀ (w : World) (mg : Str → Option Value) (fa : Addr) (h : Heap), YP w h → h.Ns mainGlobals mg → mg d.name = some (.ref fa) →
      ∃ (K : PySem.W.Frag) (fd : FuncData) (sp : Sp), K.In h ∧ (∀ (s : Shared) (u : Value), BindsTo s fd ⟨[u], []⟩ [(x, u)]) ∧
        (∀ (H : Hp) (a : Addr) (ns : List Int), ns.length ≤ n → Only H → SqL K H a (ns.map V.int) → sp [.ref a] H (fun v _ => v = .bl true) E0) ∧
        ∀ base : Heap, K.In base → base.Ns mainGlobals mg → FnG l.prog w K mg base k fa fd [x] sp) :
    PySem.W.WalkO q loose XP YP l.row.toRowW d [] (fun f vs => PySem.call f vs) := by
  refine Att.attach_call hn hdf fun w s₀ s₁ mg mb fa o pm cd doc a vs ns G Y ho hd hcd hmg hobj hints hlen hg => ?_
  obtain ⟨K, fd, sp, KX, hb, hsp, hF⟩ := F w mg fa _ Y G.T.g hmg
  exact law_callG KX G.T.g G.T.b G.T.builtins G.T.nolimit hg hobj hints (Nat.le_trans hlen hn2) hr hF hb fun H hO hS => hsp H a ns hlen hO hS
/-! ### repr of data -/
def uRepr (K : PySem.W.Frag) : List V → Hp → VK → Prop := fun xs H Q => ∃ (a : Addr) (d : PyData), xs = [.ref a] ∧ Dp K H (.ref a) d ∧ d.showable = true ∧ d.hasDict = false ∧ d.depth ≤ 64 ∧ d.shown.length ≤ sizeLine ∧ Q (.str d.shown) H
theorem u_repr {X : Cx} {K : PySem.W.Frag} (hK : X.K = K) (hg : X.A.guards = some []) (hu : X.A.units + 100 < cLine) : CallR X (.builtin "repr") (uRepr K) := by
  subst hK
  intro pins s σ H xs us Q I r h
  obtain ⟨a, d, rfl, hd, hs, hn, hz, hl, q⟩ := h
  cases r with
  | cons r1 r2 =>
    cases r2
    cases r1
    obtain ⟨as, rd⟩ := Dp.reads I d (.ref a) (.ref a) hd rfl
    refine repr_of_reads' rd hs (PyData.noDict_hsm hn) hg (by omega) (fun _ _ z => z) (fun h' u tk kk => ?_) hl
    exact ⟨.str d.shown, H, I.kept (t' := tk) kk, ⟨_, rfl⟩, q⟩
end FS

set_option Elab.async false
set_option linter.all false
set_option maxRecDepth 100000
set_option maxHeartbeats 4000000
namespace FS
open PySem PySem.Spec PyProof.Rows L2
/-! ### attributes by their names -/
theorem lk_at : ∀ {fs : List (Str × V)} {f : Str} (i : Nat) {v : V}, fs[i]? = some (f, v) → f ∉ (fs.take i).map (·.1) → fs.lookup f = some v
  | [], _, i, _, h, _ => by simp at h
  | (g, u) :: fs, f, 0, v, h, _ => by
    have h2 : (g, u) = (f, v) := by simpa using h
    cases h2
    simp [List.lookup]
  | (g, u) :: fs, f, i + 1, v, h, n => by
    have n1 : f ≠ g := fun e => n (by simp [e])
    have e : (f == g) = false := by simpa using n1
    show (match f == g with | true => some u | false => fs.lookup f) = some v
    rw [e]
    exact lk_at i (by simpa using h) (fun z => n (by simp only [List.take_succ_cons, List.map_cons]; exact List.mem_cons_of_mem _ z))
theorem lk_none : ∀ {fs : List (Str × V)} {f : Str}, f ∉ fs.map (·.1) → fs.lookup f = none
  | [], _, _ => rfl
  | (g, u) :: fs, f, n => by
    have n1 : f ≠ g := fun e => n (by simp [e])
    have e : (f == g) = false := by simpa using n1
    show (match f == g with | true => some u | false => fs.lookup f) = none
    rw [e]
    exact lk_none fun z => n (List.mem_cons_of_mem _ z)
theorem putF_new : ∀ {fs : List (Str × V)} {f : Str} {v : V}, f ∉ fs.map (·.1) → putF f v fs = fs ++ [(f, v)]
  | [], _, _, _ => rfl
  | (g, u) :: fs, f, v, n => by
    have n1 : ¬ g = f := fun e => n (by simp [e])
    show (if g = f then (g, v) :: fs else (g, u) :: putF f v fs) = _
    rw [if_neg n1, putF_new fun z => n (List.mem_cons_of_mem _ z)]
    rfl
theorem putF_at : ∀ {fs : List (Str × V)} {f : Str} {v u : V} (i : Nat), fs[i]? = some (f, u) → f ∉ (fs.take i).map (·.1) → putF f v fs = fs.set i (f, v)
  | [], _, _, _, i, h, _ => by simp at h
  | (g, u') :: fs, f, v, u, 0, h, _ => by
    have h2 : (g, u') = (f, u) := by simpa using h
    cases h2
    show (if g = g then (g, v) :: fs else _) = _
    rw [if_pos rfl]
    rfl
  | (g, u') :: fs, f, v, u, i + 1, h, n => by
    have n1 : ¬ g = f := fun e => n (by simp [e])
    show (if g = f then (g, v) :: fs else (g, u') :: putF f v fs) = _
    rw [if_neg n1, putF_at i (by simpa using h) (fun z => n (by simp only [List.take_succ_cons, List.map_cons]; exact List.mem_cons_of_mem _ z))]
    rfl
/-! ### steps of readings: attributes, methods, instances, dicts, isinstance -/
section
variable {K : PySem.W.Frag} {σ : L2.St} {H : Hp} {Q : VK} {D : Ends} {v x y : V} {ta tb te tv td ty : TE} {TA0 : TA} {B : Bool → Hp → Prop}
def Fld (K : PySem.W.Frag) (f : Str) (x : V) (H : Hp) (Q : VK) : Prop := ∃ a C dx fs v, x = .ref a ∧ H a = some (.ins C dx fs) ∧ Cls K C ∧ NoAttr K C f ∧ fs.lookup f = some v ∧ Q v H
theorem rd_fld {f : Str} (q : ta σ H fun x H1 => Fld K f x H1 Q) : tFld K ta f σ H Q := q
theorem rd_fldJ {f : Str} {a C dx : Addr} {fs : List (Str × V)} (h : H a = some (.ins C dx fs)) (c : Cls K C) (n : NoAttr K C f) (l : fs.lookup f = some v) (q : Q v H) : Fld K f (.ref a) H Q := ⟨a, C, dx, fs, v, rfl, h, c, n, l, q⟩
def SFld (K : PySem.W.Frag) (f : Str) (x y : V) (H : Hp) (R : Hp → Prop) : Prop := ∃ a C dx fs, x = .ref a ∧ H a = some (.ins C dx fs) ∧ Cls K C ∧ NoAttr K C f ∧ fs.length < 1000 ∧ R (upd H a (.ins C dx (putF f y fs)))
theorem rd_sfld {f : Str} (q : tv σ H fun y H1 => ta σ H1 fun x H2 => SFld K f x y H2 fun H3 => D.nx σ H3) : sFld K ta tv f D σ H := q
theorem rd_sfldJ {f : Str} {a C dx : Addr} {fs fs' : List (Str × V)} {R : Hp → Prop} (h : H a = some (.ins C dx fs)) (c : Cls K C) (n : NoAttr K C f) (l : fs.length < 1000) (e : putF f y fs = fs') (q : R (upd H a (.ins C dx fs'))) : SFld K f (.ref a) y H R :=
  ⟨a, C, dx, fs, rfl, h, c, n, l, by rw [e]; exact q⟩
theorem u_sfld {X : Cx} {o e : Expr} {f : Str} {pos pos' : Pos} (hK : X.K = K) (ha : PE X o ta) (hv : PE X e tv) (hs : swapsWith e (some (.Attribute o f pos')) pos.line X.env = pure false) : PS X (.Assign [.Attribute o f pos'] e pos) (sFld K ta tv f) := by subst hK; exact ps_fld ha hv hs
def Mth (C : Addr) (m : Str) (sp : Sp) (dvs : List V) (E : XK) (t : TA) (σ : L2.St) (x : V) (H : Hp) (Q : VK) : Prop := ∃ a dx fs, x = .ref a ∧ H a = some (.ins C dx fs) ∧ fs.lookup m = none ∧ t σ H fun vs H2 => sp (x :: (vs ++ dvs)) H2 Q E
theorem rd_meth {C : Addr} {m : Str} {sp : Sp} {dvs : List V} {E : XK} (q : ta σ H fun x H1 => Mth C m sp dvs E TA0 σ x H1 Q) : tMeth C m sp dvs E ta TA0 σ H Q := q
theorem rd_methJ {C a dx : Addr} {m : Str} {sp : Sp} {dvs : List V} {E : XK} {fs : List (Str × V)} (h : H a = some (.ins C dx fs)) (l : fs.lookup m = none) (q : TA0 σ H fun vs H2 => sp (.ref a :: (vs ++ dvs)) H2 Q E) : Mth C m sp dvs E TA0 σ (.ref a) H Q := ⟨a, dx, fs, rfl, h, l, q⟩
def Mke (C : Addr) (sp : Sp) (dvs : List V) (E : XK) (vs : List V) (H1 : Hp) (Q : VK) : Prop := ∀ x dx, H1 x = none → H1 dx = none → dx ≠ x → sp (.ref x :: (vs ++ dvs)) (upd (upd H1 dx (.own x)) x (.ins C dx [])) (fun v H2 => v = .non ∧ Q (.ref x) H2) E
theorem rd_make {C : Addr} {sp : Sp} {dvs : List V} {E : XK} (q : TA0 σ H fun vs H1 => Mke C sp dvs E vs H1 Q) : tMake C sp dvs E TA0 σ H Q := q
def DIn (b : Bool) (y x : V) (H : Hp) (Q : VK) : Prop := ∃ a o, x = .ref a ∧ DGet H a y o ∧ Q (.bl (if b then o.isSome else !o.isSome)) H
theorem rd_din (q : ty σ H fun y H1 => td σ H1 fun x H2 => DIn true y x H2 Q) : tDIn ty td σ H Q := q
theorem rd_dnotin (q : ty σ H fun y H1 => td σ H1 fun x H2 => DIn false y x H2 Q) : tDNotIn ty td σ H Q := q
theorem rd_dinJ {d : Addr} {kvs : List (Key × V)} {z : Str} (h : H d = some (.dK kvs)) (q : Q (.bl (valV kvs (.inr z)).isSome) H) : DIn true (.str z) (.ref d) H Q := ⟨d, _, rfl, DGet.k (k := .inr z) h, q⟩
theorem rd_dnotinJ {d : Addr} {kvs : List (Key × V)} {z : Str} (h : H d = some (.dK kvs)) (q : Q (.bl (!(valV kvs (.inr z)).isSome)) H) : DIn false (.str z) (.ref d) H Q := ⟨d, _, rfl, DGet.k (k := .inr z) h, q⟩
def DGe (x y : V) (H : Hp) (Q : VK) : Prop := ∃ a v, x = .ref a ∧ DGet H a y (some v) ∧ Q v H
theorem rd_dget (q : td σ H fun x H1 => ty σ H1 fun y H2 => DGe x y H2 Q) : tDGet td ty σ H Q := q
theorem rd_dgetJ {d : Addr} {kvs : List (Key × V)} {z : Str} (h : H d = some (.dK kvs)) (e : valV kvs (.inr z) = some v) (q : Q v H) : DGe (.ref d) (.str z) H Q := ⟨d, v, rfl, by rw [← e]; exact DGet.k (k := .inr z) h, q⟩
def DPu (x y v : V) (H : Hp) (R : Hp → Prop) : Prop := ∃ a H4, x = .ref a ∧ DPut H a y v H4 ∧ R H4
theorem rd_dput (q : tv σ H fun v H1 => td σ H1 fun x H2 => ty σ H2 fun y H3 => DPu x y v H3 fun H4 => D.nx σ H4) : sDPut td ty tv D σ H := q
theorem rd_dputJ {d : Addr} {kvs : List (Key × V)} {z : Str} {R : Hp → Prop} (h : H d = some (.dK kvs)) (l : kvs.length ≤ 1000) (q : R (upd H d (.dK (putK kvs (.inr z) v)))) : DPu (.ref d) (.str z) v H R := ⟨d, _, rfl, DPut.k (k := .inr z) h (Nat.lt_of_le_of_lt l (by decide)), q⟩
def Dsp (p : Addr) (ps : List (V × V)) (H2 : Hp) (Q : VK) : Prop := H2 p = some (.dK []) ∧ ∃ kvs : List (Key × V), ps = kvs.map (fun kv => (kV kv.1, kv.2)) ∧ kvs.length ≤ 15 ∧ Q (.ref p) (upd H2 p (.dK (mergeK [] kvs)))
theorem rd_disp {trs : List (TE × TE)} (q : ∀ p, H p = none → tPairs trs σ (upd H p (.dK [])) fun ps H2 => Dsp p ps H2 Q) : tDisp trs σ H Q := q
theorem rd_pcons {tk tw : TE} {r : List (TE × TE)} {R : List (V × V) → Hp → Prop} (q : tk σ H fun x H1 => tw σ H1 fun y H2 => tPairs r σ H2 fun ps H3 => R ((x, y) :: ps) H3) : tPairs ((tk, tw) :: r) σ H R := q
theorem rd_pnil {R : List (V × V) → Hp → Prop} (q : R [] H) : tPairs [] σ H R := q
theorem u_isi {X : Cx} (hK : X.K = K) : CallR X (.builtin "isinstance") (rIsi K) := by subst hK; exact call_isi
theorem u_isiT {X : Cx} (hK : X.K = K) : CallR X (.builtin "isinstance") (rIsiT K) := by subst hK; exact call_isiT
theorem rd_isi {c : V} {t u : Value} {b : Bool} (ty : TyX K H x t) (k : ClsV c u) (e : PySem.W.kitOne K t u = some b) (q : Q (.bl b) H) : rIsi K [x, c] H Q := ⟨x, c, t, u, b, rfl, k, ty, e, q⟩
def uListOf (K : PySem.W.Frag) : List V → Hp → VK → Prop := fun xs H Q => ∃ p ys, xs = [.ref p] ∧ (SqL K H p ys ∨ SqT K H p ys) ∧ ∀ l, H l = none → Q (.ref l) (upd H l (.lst ys))
theorem u_listOf {X : Cx} (hK : X.K = K) : CallR X (.type "list") (uListOf K) := by subst hK; exact call_list_of
theorem rd_listL {p : Addr} {ys : List V} (h : SqL K H p ys) (q : ∀ l, H l = none → Q (.ref l) (upd H l (.lst ys))) : uListOf K [.ref p] H Q := ⟨p, ys, rfl, .inl h, q⟩
theorem rd_listD {p : Addr} {kvs : List (Key × V)} (h : H p = some (.dK kvs)) (q : ∀ l, H l = none → Q (.ref l) (upd H l (.lst (kvs.map fun kv => kV kv.1)))) : rListD [.ref p] H Q := ⟨p, kvs, rfl, h, q⟩
def uStrI : List V → Hp → VK → Prop := fun xs H Q => ∃ i, xs = [.int i] ∧ i.natAbs.log2 < 1920 ∧ Q (.str (toString i)) H
theorem u_strI {X : Cx} : CallR X (.type "str") uStrI := call_str_int
theorem u_reprI {X : Cx} : CallR X (.builtin "repr") uStrI := SkE.call_repr_int
theorem rd_strI {i : Int} (h : i.natAbs.log2 < 1920) (q : Q (.str (toString i)) H) : uStrI [.int i] H Q := ⟨i, rfl, h, q⟩
def iStrJ (v : V) (H : Hp) (R : It → Hp → Prop) : Prop := ∃ x, v = .str x ∧ R (Its x) H
theorem rd_istr {R : It → Hp → Prop} (q : te σ H fun v H1 => iStrJ v H1 R) : iStr te σ H R := q
theorem rd_istrJ {R : It → Hp → Prop} {z : Str} (q : R (Its z) H) : iStrJ (.str z) H R := ⟨z, rfl, q⟩
/-- a comprehension over a text's signs -/
theorem lc_S {g : TG} {tt : TT} {z : Str} {vs : List Nat} (Pv : Addr → Nat → Hp → Prop) (h0 : ∀ D, H D = none → Pv D 0 (upd H D (.lst [])))
    (hs : ∀ D (i c : Nat) G, H D = none → z.cps[i]? = some c → Pv D i G → g (.str ⟨#[c]⟩) (wipe σ vs) G fun σ2 H2 => wipe σ2 vs = wipe σ vs ∧ tt σ2 H2 fun b H3 =>
      if b = true then te σ2 H3 fun y H4 => ∃ acc, H4 D = some (.lst acc) ∧ acc.length < sizeLine ∧ Pv D (i + 1) (upd H4 D (.lst (acc ++ [y]))) else Pv D (i + 1) H3) (hd : ∀ D G, H D = none → Pv D z.cps.size G → Q (.ref D) G) :
    LcJ g tt te vs σ Q (Its z) H := by
  intro D hD
  refine ⟨fun i m G => m = z.cps.size - i ∧ i ≤ z.cps.size ∧ Pv D i G, ⟨_, rfl, Nat.zero_le _, h0 D hD⟩, ?_⟩
  rintro i m G ⟨rfl, hi, p⟩
  by_cases lt : i < z.cps.size
  · refine .inr ⟨lt, Pv D (i + 1), fun G' p' => ⟨z.cps.size - (i + 1), by omega, rfl, lt, p'⟩, fun x G' hy => ?_⟩
    obtain ⟨e1, c, e2, e3⟩ := hy
    subst e1 e3
    exact hs D i c _ hD e2 p
  · have e : i = z.cps.size := by omega
    subst e
    exact .inl ⟨Nat.le_refl _, hd D G hD p⟩
theorem rd_sign {c : Nat} {z : Str} (q : Q (.bl (decide (c ∈ z.cps.toList))) H) : rInS (.str ⟨#[c]⟩) (.str z) H Q := ⟨c, z, rfl, rfl, q⟩
theorem rd_all {p : Addr} {bs : List Bool} (h : H p = some (.lst (bs.map V.bl))) (q : Q (.bl (bs.all id)) H) : rAll K [.ref p] H Q := ⟨p, bs, rfl, SqL.of h, q⟩
theorem rd_any {p : Addr} {bs : List Bool} (h : H p = some (.lst (bs.map V.bl))) (q : Q (.bl (bs.any id)) H) : rAny K [.ref p] H Q := ⟨p, bs, rfl, SqL.of h, q⟩
theorem u_all {X : Cx} (hK : X.K = K) (hc : X.calm = true) : CallR X (.builtin "all") (rAll K) := by subst hK; exact cr_all hc
theorem u_any {X : Cx} (hK : X.K = K) (hc : X.calm = true) : CallR X (.builtin "any") (rAny K) := by subst hK; exact cr_any hc
theorem u_sum {X : Cx} (hK : X.K = K) (hc : X.calm = true) : CallR X (.builtin "sum") (rSum K) := by subst hK; exact cr_sum hc
theorem u_maxL {X : Cx} (hK : X.K = K) (hc : X.calm = true) : CallR X (.builtin "max") (rMax K) := by subst hK; exact cr_max hc
theorem rd_isN (q : Q (.bl (decide (x = .non))) H) : rIsN x .non H Q := ⟨rfl, q⟩
theorem rd_notN (q : Q (.bl (!decide (x = .non))) H) : rNotN x .non H Q := ⟨rfl, q⟩
def BmJ (K : PySem.W.Frag) (T : String) (r : V → List V → Hp → VK → Prop) (t : TA) (σ : L2.St) (x : V) (H : Hp) (Q : VK) : Prop := tyV K T x H ∧ t σ H fun xs H2 => r x xs H2 Q
theorem rd_bm {T : String} {r : V → List V → Hp → VK → Prop} (q : te σ H fun x H1 => BmJ K T r TA0 σ x H1 Q) : tBM K T r te TA0 σ H Q := q
theorem rd_bmL {l : Addr} {xs : List V} {r : V → List V → Hp → VK → Prop} (h : H l = some (.lst xs)) (q : TA0 σ H fun ys H2 => r (.ref l) ys H2 Q) : BmJ K "list" r TA0 σ (.ref l) H Q := ⟨.inl ⟨rfl, _, SqL.of h⟩, q⟩
def Bm0J (K : PySem.W.Frag) (T : String) (r : V → List V → Hp → VK → Prop) (x : V) (H : Hp) (Q : VK) : Prop := tyV K T x H ∧ r x [] H Q
theorem rd_bm0 {T : String} {r : V → List V → Hp → VK → Prop} (q : te σ H fun x H1 => Bm0J K T r x H1 Q) : tBM0 K T r te σ H Q := q
theorem rd_bm0L {l : Addr} {xs : List V} {r : V → List V → Hp → VK → Prop} (h : H l = some (.lst xs)) (q : r (.ref l) [] H Q) : Bm0J K "list" r (.ref l) H Q := ⟨.inl ⟨rfl, _, SqL.of h⟩, q⟩
/-- unpacking -/
theorem rd_gtup {n : Nat} {t : TGs} {p : Addr} {xs : List V} {G : L2.St → Hp → Prop} (h : SqT K H p xs) (l : xs.length = n) (q : t xs σ H G) : gTup K n t (.ref p) σ H G := ⟨p, xs, rfl, h, l, q⟩
theorem rd_gcons {t : TG} {u : TGs} {w : V} {r : List V} {G : L2.St → Hp → Prop} (q : t w σ H fun σ' H' => u r σ' H' G) : gCons t u (w :: r) σ H G := ⟨w, r, rfl, q⟩
theorem rd_gnil {G : L2.St → Hp → Prop} (q : G σ H) : gNil [] σ H G := ⟨rfl, q⟩
end
/-! ### names, kinds -/
def letters : Str := Str.ofString "abcdefghijklmnopqrstuvwxyz"
def isName (z : Str) : Bool := decide (1 ≤ z.length ∧ z.length ≤ 8) && z.cps.toList.all fun c => decide (c ∈ letters.cps.toList)
abbrev Pairs := List (Str × Str)
def kinds (ps : Pairs) : List Str := "fault" :: "sheaf" :: ps.map (·.1)
def uppers (ps : Pairs) : List (Key × V) := (.inr "fault", .non) :: (.inr "sheaf", .str "fault") :: ps.map fun p => (.inr p.1, .str p.2)
/-- kinds told one behind another -/
def Good : Pairs → Prop
  | [] => True
  | p :: r => Good r ∧ isName p.1 = true ∧ p.1 ∉ kinds r ∧ isName p.2 = true ∧ (p.2 = "fault" ∨ p.2 ∈ r.map (·.1))
/-- the pairs in their order (Good looks at them from the last one on) -/
def GoodP (ps : Pairs) : Prop := Good ps.reverse
theorem valV_any (l : List (Key × V)) (z : Str) : (valV l (.inr z)).isSome = l.any fun p => decide (p.1 = .inr z) := by
  induction l with
  | nil => rfl
  | cons p l ih =>
    unfold valV at ih ⊢
    by_cases h : p.1 = .inr z
    · simp [List.find?, h]
    · simp only [List.find?, h, decide_false, List.any_cons, Bool.false_or]
      exact ih
theorem valV_uppers {ps : Pairs} {z : Str} : (valV (uppers ps) (.inr z)).isSome = decide (z ∈ kinds ps) := by
  rw [valV_any]
  unfold uppers kinds
  rw [List.any_cons, List.any_cons, List.any_map]
  have e : ∀ y : Str, decide ((Sum.inr y : Key) = .inr z) = decide (y = z) := fun y => key_rr y z
  simp only [e, Function.comp_def]
  have key : ∀ l : Pairs, (l.any fun x => decide (x.1 = z)) = decide (z ∈ l.map (·.1)) := by
    intro l
    induction l with
    | nil => rfl
    | cons p l ih =>
      rw [List.any_cons, ih, List.map_cons]
      by_cases h : p.1 = z
      · simp [h]
      · have h' : ¬ z = p.1 := fun q => h q.symm
        simp [h, h']
  rw [key]
  have sym : ∀ y : Str, decide (y = z) = decide (z = y) := fun y => by
    by_cases h : y = z
    · simp [h]
    · have h' : ¬ z = y := fun q => h q.symm
      simp [h, h']
  rw [sym, sym, Bool.eq_iff_iff]
  simp [List.mem_cons]
/-- a Kinds object -/
def ksKinds (d : Addr) : List (Str × V) := [("uppers", .ref d)]
def KindsAt (K : PySem.W.Frag) (H : Hp) (k : Addr) (ps : Pairs) : Prop := ∃ dx d, H k = some (.ins (He.ga K "Kinds") dx (ksKinds d)) ∧ H d = some (.dK (uppers ps))
theorem KindsAt.same {K : PySem.W.Frag} {H H' : Hp} {k : Addr} {ps : Pairs} (h : KindsAt K H k ps) (s : Same H H') : KindsAt K H' k ps := by
  obtain ⟨dx, d, h1, h2⟩ := h
  exact ⟨dx, d, s _ _ h1, s _ _ h2⟩
/-- what is no text, by its type -/
inductive NoStr (H : Hp) : V → Value → Prop
  | non : NoStr H .non (.type "NoneType")
  | bl (b : Bool) : NoStr H (.bl b) (.type "bool")
  | int (i : Int) : NoStr H (.int i) (.type "int")
  | lst {a : Addr} {xs : List V} (e : H a = some (.lst xs)) : NoStr H (.ref a) (.type "list")
  | tup {a : Addr} {xs : List V} (e : H a = some (.tup xs)) : NoStr H (.ref a) (.type "tuple")
  | dic {a : Addr} {kvs : List (Key × V)} (e : H a = some (.dK kvs)) : NoStr H (.ref a) (.type "dict")
theorem NoStr.ty {K : PySem.W.Frag} {H : Hp} {x : V} {t : Value} (h : NoStr H x t) : TyX K H x t := by
  cases h with
  | non => exact .base .non
  | bl b => exact .base (.bl b)
  | int i => exact .base (.int i)
  | lst e => exact .base (.lst e)
  | tup e => exact .base (.tup e)
  | dic e => exact .base (.dK e)
theorem NoStr.kit {K : PySem.W.Frag} {H : Hp} {x : V} {t : Value} (h : NoStr H x t) : PySem.W.kitOne K t (.type "str") = some false := by
  cases h with
  | non => kernel_rfl
  | bl b => kernel_rfl
  | int i => kernel_rfl
  | lst e => kernel_rfl
  | tup e => kernel_rfl
  | dic e => kernel_rfl
theorem NoStr.mono {H H' : Hp} {x : V} {t : Value} (h : NoStr H x t) (s : ∀ a o, x = .ref a → H a = some o → H' a = some o) : NoStr H' x t := by
  cases h with
  | non => exact .non
  | bl b => exact .bl b
  | int i => exact .int i
  | lst e => exact .lst (s _ _ rfl e)
  | tup e => exact .tup (s _ _ rfl e)
  | dic e => exact .dic (s _ _ rfl e)
/-- any thing, as far as its being a text goes -/
def Thg (H : Hp) (x : V) (o : Option Str) : Prop :=
  (∃ z, x = .str z ∧ o = some z ∧ z.length ≤ 100000) ∨ (∃ t, NoStr H x t ∧ o = none)
theorem Thg.same {H H' : Hp} {x : V} {o : Option Str} (h : Thg H x o) (s : Same H H') : Thg H' x o := by
  rcases h with h | ⟨t, ty, e⟩
  · exact .inl h
  · exact .inr ⟨t, ty.mono fun a u _ z => s a u z, e⟩
theorem Thg.keep {H H' : Hp} {x : V} {o : Option Str} {k C dx : Addr} {fs : List (Str × V)} (h : Thg H x o) (s : Keep k H H') (hk : H k = some (.ins C dx fs)) : Thg H' x o := by
  rcases h with h | ⟨t, ty, e⟩
  · exact .inl h
  · refine .inr ⟨t, ?_, e⟩
    cases ty with
    | non => exact .non
    | bl b => exact .bl b
    | int i => exact .int i
    | lst e => exact .lst (s _ _ (ne_of e hk (by intro z; cases z)) e)
    | tup e => exact .tup (s _ _ (ne_of e hk (by intro z; cases z)) e)
    | dic e => exact .dic (s _ _ (ne_of e hk (by intro z; cases z)) e)
theorem Thg.str {H : Hp} {z : Str} (h : z.length ≤ 100000) : Thg H (.str z) (some z) := .inl ⟨z, rfl, rfl, h⟩
def isNameO : Option Str → Bool
  | some z => isName z
  | none => false
def spName (K : PySem.W.Frag) : Sp := fun vs H Q _ => ∃ x o, vs = [x] ∧ Thg H x o ∧ ∀ H', Same H H' → Q (.bl (isNameO o)) H'
def kstep (ps : Pairs) : Option Str × Option Str → Option Pairs
  | (some n, some u) => if isName n = true ∧ n ∉ kinds ps ∧ isName u = true ∧ u ≠ "sheaf" ∧ u ∈ kinds ps then some (ps ++ [(n, u)]) else none
  | _ => none
def kfold (ps : Pairs) : List (Option Str × Option Str) → Option Pairs
  | [] => some ps
  | q :: r => (kstep ps q).bind fun ps' => kfold ps' r
/-- a list of pairs, told -/
def PrsAt (H : Hp) (l : Addr) (qs : List (Option Str × Option Str)) : Prop :=
  ∃ as : List Addr, H l = some (.lst (as.map V.ref)) ∧ as.length = qs.length ∧ ∀ (i : Nat) (q : Option Str × Option Str), qs[i]? = some q → ∃ a n u, as[i]? = some a ∧ H a = some (.tup [n, u]) ∧ Thg H n q.1 ∧ Thg H u q.2
theorem kit_ss {K : PySem.W.Frag} : PySem.W.kitOne K (.type "str") (.type "str") = some true := by kernel_rfl
theorem kit_is {K : PySem.W.Frag} : PySem.W.kitOne K (.type "int") (.type "str") = some false := by kernel_rfl
theorem kit_ii {K : PySem.W.Frag} : PySem.W.kitOne K (.type "int") (.type "int") = some true := by kernel_rfl
theorem kit_ib {K : PySem.W.Frag} : PySem.W.kitOne K (.type "int") (.type "bool") = some false := by kernel_rfl
theorem kit_bi {K : PySem.W.Frag} : PySem.W.kitOne K (.type "bool") (.type "int") = some true := by kernel_rfl
theorem kit_bb {K : PySem.W.Frag} : PySem.W.kitOne K (.type "bool") (.type "bool") = some true := by kernel_rfl
theorem kit_bs {K : PySem.W.Frag} : PySem.W.kitOne K (.type "bool") (.type "str") = some false := by kernel_rfl
theorem kit_ns {K : PySem.W.Frag} : PySem.W.kitOne K (.type "NoneType") (.type "str") = some false := by kernel_rfl
theorem kit_ls {K : PySem.W.Frag} : PySem.W.kitOne K (.type "list") (.type "str") = some false := by kernel_rfl
theorem kit_ts {K : PySem.W.Frag} : PySem.W.kitOne K (.type "tuple") (.type "str") = some false := by kernel_rfl
theorem kit_ds {K : PySem.W.Frag} : PySem.W.kitOne K (.type "dict") (.type "str") = some false := by kernel_rfl
theorem size_len (z : Str) : z.cps.size = z.length := rfl
def spKinds (K : PySem.W.Frag) : Sp := fun vs H Q E => ∃ (k l dx : Addr) (qs : List (Option Str × Option Str)), vs = [.ref k, .ref l] ∧ H k = some (.ins (He.ga K "Kinds") dx []) ∧ PrsAt H l qs ∧ qs.length ≤ 100 ∧
  match kfold [] qs with
  | some ps => ∀ H', Keep k H H' → KindsAt K H' k ps → Q .non H'
  | none => ∀ H', Keep k H H' → E (.ref (He.ga K "NoKind")) none H'
theorem merge0 : mergeK [] [((.inr "fault" : Key), V.non), (.inr "sheaf", .str "fault")] = uppers [] := by decide +kernel
theorem kfold_snoc : ∀ (qs : List (Option Str × Option Str)) (q : Option Str × Option Str) (ps : Pairs), kfold ps (qs ++ [q]) = (kfold ps qs).bind fun ps' => kstep ps' q
  | [], q, ps => by
    show (kstep ps q).bind (fun ps' => some ps') = kstep ps q
    cases kstep ps q <;> rfl
  | p :: qs, q, ps => by
    show (kstep ps p).bind (fun ps' => kfold ps' (qs ++ [q])) = ((kstep ps p).bind fun ps' => kfold ps' qs).bind fun ps' => kstep ps' q
    cases kstep ps p with
    | none => rfl
    | some ps' => exact kfold_snoc qs q ps'
theorem kfold_stop : ∀ (qs rs : List (Option Str × Option Str)) (ps : Pairs), kfold ps qs = none → kfold ps (qs ++ rs) = none
  | [], _, _, h => by cases h
  | p :: qs, rs, ps, h => by
    show (kstep ps p).bind (fun ps' => kfold ps' (qs ++ rs)) = none
    cases e : kstep ps p with
    | none => rfl
    | some ps' =>
      have h2 : kfold ps' qs = none := by
        have : (kstep ps p).bind (fun ps' => kfold ps' qs) = none := h
        rw [e] at this
        exact this
      exact kfold_stop qs rs ps' h2
theorem put_uppers {ps : Pairs} {n u : Str} (h : n ∉ kinds ps) : putK (uppers ps) (.inr n) (.str u) = uppers (ps ++ [(n, u)]) := by
  have e : ((uppers ps).any fun kv => decide (kv.1 = (.inr n : Key))) = false := by
    rw [← valV_any, valV_uppers]
    exact decide_eq_false h
  unfold putK
  rw [e, if_neg Bool.false_ne_true]
  unfold uppers
  simp
theorem uppers_len (ps : Pairs) : (uppers ps).length = ps.length + 2 := by simp [uppers]
theorem kstep_len {ps ps' : Pairs} {q : Option Str × Option Str} (h : kstep ps q = some ps') : ps'.length = ps.length + 1 := by
  unfold kstep at h
  split at h
  · split at h
    · cases h
      simp
    · cases h
  · cases h
theorem kfold_len : ∀ (qs : List (Option Str × Option Str)) (ps ps' : Pairs), kfold ps qs = some ps' → ps'.length = ps.length + qs.length
  | [], ps, ps', h => by cases h; rfl
  | q :: qs, ps, ps', h => by
    have h2 : (kstep ps q).bind (fun p => kfold p qs) = some ps' := h
    cases e : kstep ps q with
    | none => rw [e] at h2; cases h2
    | some p1 =>
      rw [e] at h2
      have := kfold_len qs p1 ps' h2
      rw [this, kstep_len e, List.length_cons]
      omega
end FS

set_option Elab.async false
set_option linter.all false
set_option maxRecDepth 100000
set_option maxHeartbeats 4000000
namespace FS
open PySem PySem.Spec PyProof.Rows L2
/-! ### facts of own exception classes, as one truth each -/
def oexB (K : PySem.W.Frag) (C : Addr) : Bool :=
  (match K.lookup C with
    | some ⟨.type t, _, .cls cd, sl⟩ => decide (t = "type") && (match cd.mro, sl.toList with
      | .ref c :: bm, [_, _, _, _, some (.builtin n), _] => decide (c = C) && decide (n = "ValueError.__new__") && !cd.hasDel && cd.hasDict && PySem.HandSPX.refsVE bm
      | _, _ => false)
    | _ => false) &&
  (He.eqO (PySem.W.findIn K (.ref C) "__setattr__") (some (some (.builtin "object.__setattr__"))) && (decide (PySem.W.subIn K (.ref C) (.type "BaseException") = some true) && (decide (PySem.W.typeIn K (.ref C) = some (.type "type")) && PySem.W.keepIn K (.ref C))))
theorem oexB_ok {K : PySem.W.Frag} {C : Addr} (h : oexB K C = true) : OexC K C := by
  obtain ⟨h1, h2⟩ := He.ba h
  obtain ⟨h2, h3⟩ := He.ba h2
  obtain ⟨h3, h4⟩ := He.ba h3
  obtain ⟨h4, h5⟩ := He.ba h4
  refine ⟨?_, He.eqO_ok h2, of_decide_eq_true h3, of_decide_eq_true h4, h5⟩
  cases e : K.lookup C with
  | none =>
    rw [e] at h1
    cases h1
  | some o =>
    rw [e] at h1
    obtain ⟨oc, od, dt, sl⟩ := o
    cases oc with
    | type t =>
      cases dt with
      | cls cd =>
        obtain ⟨g1, g2⟩ := He.ba h1
        have et : t = "type" := of_decide_eq_true g1
        subst et
        obtain ⟨nm, bs, mro, ns, qn, hd, sn, sb, ab, col, del⟩ := cd
        cases mro with
        | nil => cases g2
        | cons v bm =>
          cases v with
          | ref c =>
            obtain ⟨sl⟩ := sl
            match sl, g2 with
            | [k0, k1, k2, k3, some (.builtin n), k5], g2 =>
              obtain ⟨g2, g6⟩ := He.ba g2
              obtain ⟨g2, g5⟩ := He.ba g2
              obtain ⟨g2, g4⟩ := He.ba g2
              obtain ⟨g2, g3⟩ := He.ba g2
              have ec : c = C := of_decide_eq_true g2
              have en : n = "ValueError.__new__" := of_decide_eq_true g3
              have e4 : del = false := by
                cases del
                · rfl
                · cases g4
              have e5 : hd = true := g5
              subst ec en e4 e5
              exact ⟨nm, qn, ns, bs, bm, sn, sb, ab, col, od, k0, k1, k2, k3, k5, rfl, g6⟩
          | _ => cases g2
      | _ => cases h1
    | _ => cases h1
def excB (K : PySem.W.Frag) (D : Addr) : Bool :=
  He.eqO (PySem.W.findIn K (.ref D) "__getattribute__") (some (some (.builtin "BaseException.__getattribute__"))) && (He.eqO (PySem.W.findIn K (.ref D) "__getattr__") (some none) && (decide (PySem.W.subIn K (.ref D) (.type "BaseException") = some true) &&
  (PySem.W.hasDictIn K D && (He.eqO (PySem.W.findIn K (.ref D) "__class__") (some (some (.builtin "object.__class__"))) && (He.eqO (PySem.W.specialIn K (.builtin "object.__class__") "__get__") (some (some (.builtin "getset_descriptor.__get__"))) &&
  (decide (PySem.W.takesIn K (.builtin "object.__class__") = some true) && decide (PySem.W.mroIn K D (.type "object") = some true)))))))
theorem excB_ok {K : PySem.W.Frag} {D : Addr} (h : excB K D = true) : ExcC K D := by
  obtain ⟨h1, h⟩ := He.ba h
  obtain ⟨h2, h⟩ := He.ba h
  obtain ⟨h3, h⟩ := He.ba h
  obtain ⟨h4, h⟩ := He.ba h
  obtain ⟨h5, h⟩ := He.ba h
  obtain ⟨h6, h⟩ := He.ba h
  obtain ⟨h7, h8⟩ := He.ba h
  exact ⟨He.eqO_ok h1, He.eqO_ok h2, of_decide_eq_true h3, h4, He.eqO_ok h5, He.eqO_ok h6, of_decide_eq_true h7, of_decide_eq_true h8⟩
def excXB (K : PySem.W.Frag) (x : Str) : Bool :=
  oexB K (He.ga K x) && (excB K (He.ga K x) && (He.eqO (PySem.W.findIn K (.ref (He.ga K x)) "__init__") (some (some (.ref (He.ma K (He.ga K "FaultError") "__init__")))) &&
  (decide (PySem.W.typeIn K (.ref (He.ma K (He.ga K "FaultError") "__init__")) = some (.type "function")) && (decide (PySem.W.kitOne K (.ref (He.ga K x)) (.type "ValueError") = some true) &&
  decide (PySem.W.exmOne K (.ref (He.ga K x)) (.ref (He.ga K "FaultError")) = some true)))))
theorem excXB_ok {K : PySem.W.Frag} {x : Str} (h : excXB K x = true) : ExcX K x := by
  obtain ⟨h1, h⟩ := He.ba h
  obtain ⟨h2, h⟩ := He.ba h
  obtain ⟨h3, h⟩ := He.ba h
  obtain ⟨h4, h⟩ := He.ba h
  obtain ⟨h5, h6⟩ := He.ba h
  exact ⟨oexB_ok h1, excB_ok h2, He.eqO_ok h3, of_decide_eq_true h4, of_decide_eq_true h5, of_decide_eq_true h6⟩
def viB (K : PySem.W.Frag) : Bool := match PySem.W.findCls K (.type "ValueError") (.type "type") "__init__" with
  | some (.val (.builtin n)) => decide (n = "ValueError.__init__")
  | _ => false
theorem viB_ok {K : PySem.W.Frag} (h : viB K = true) : PySem.W.findCls K (.type "ValueError") (.type "type") "__init__" = some (.val (.builtin "ValueError.__init__")) := by
  unfold viB at h
  split at h
  · rename_i n e
    rw [e, of_decide_eq_true h]
  · cases h
/-! ### a def of the head -/
abbrev dd (at_ : Str × Option Str) (x q : Str) (st : Stmt) : He.DefD := ⟨at_, x, q, defArgs st, defBody st, defScope st, [], []⟩
end FS

set_option Elab.async false
set_option linter.all false
set_option maxRecDepth 100000
set_option maxHeartbeats 4000000
namespace FS
open PySem PySem.Spec PyProof.Rows L2
/-! ### things, as far as is_whole and is_kind ask -/
def Any (H : Hp) (x : V) : Prop := (∃ z, x = .str z) ∨ ∃ t, NoStr H x t
def isWh : V → Bool
  | .int _ => true
  | _ => false
def spWhole : Sp := fun vs H Q _ => ∃ x, vs = [x] ∧ Any H x ∧ Q (.bl (isWh x)) H
def isKindO (ps : Pairs) : Option Str → Bool
  | some z => isName z && decide (z ∈ kinds ps)
  | none => false
def spIsKind (K : PySem.W.Frag) : Sp := fun vs H Q _ => ∃ (k : Addr) (ps : Pairs) (x : V) (o : Option Str), vs = [.ref k, x] ∧ KindsAt K H k ps ∧ Thg H x o ∧ ∀ H', Same H H' → Q (.bl (isKindO ps o)) H'
/-! ### a ledger's entries -/
structure Ent where
  kind : Str
  text : Str
  mem : List Nat
  notes : List Str
  cause : Option Nat
  work : Option Nat
def optN : Option Nat → V
  | none => .non
  | some n => .int (n : Int)
def natV (n : Nat) : V := .int (n : Int)
def fsEnt (e : Ent) (li ln : Addr) : List (Str × V) := [("its_kind", .str e.kind), ("told", .str e.text), ("inner", .ref li), ("noted", .ref ln), ("blamed", optN e.cause), ("worked", optN e.work)]
/-- where an entry stands: the object, its members' list, its notes' list -/
structure Cell where
  p : Addr
  li : Addr
  ln : Addr
def Cell.fp (c : Cell) : List Addr := [c.p, c.li, c.ln]
def EntAt (K : PySem.W.Frag) (H : Hp) (c : Cell) (e : Ent) : Prop :=
  (∃ dx, H c.p = some (.ins (He.ga K "Entry") dx (fsEnt e c.li c.ln))) ∧ H c.li = some (.lst (e.mem.map natV)) ∧ H c.ln = some (.lst (e.notes.map V.str))
def fsLed (kk l : Addr) : List (Str × V) := [("sorts", .ref kk), ("entries", .ref l)]
def fpOf (l : Addr) (cs : List Cell) : List Addr := l :: cs.flatMap Cell.fp
structure LedIn (K : PySem.W.Frag) (H : Hp) (L kk l : Addr) (cs : List Cell) (es : List Ent) : Prop where
  obj : ∃ dx, H L = some (.ins (He.ga K "Ledger") dx (fsLed kk l))
  lst : H l = some (.lst (cs.map fun c => .ref c.p))
  len : cs.length = es.length
  ent : ∀ (i : Nat) (c : Cell) (e : Ent), cs[i]? = some c → es[i]? = some e → EntAt K H c e
  nd : (fpOf l cs).Nodup
def LedAt (K : PySem.W.Frag) (H : Hp) (L kk : Addr) (es : List Ent) (F : List Addr) : Prop := ∃ l cs, LedIn K H L kk l cs es ∧ F = fpOf l cs
theorem mem_fp {l : Addr} {cs : List Cell} {c : Cell} {b : Addr} (hc : c ∈ cs) (hb : b ∈ c.fp) : b ∈ fpOf l cs := List.mem_cons_of_mem _ (List.mem_flatMap.mpr ⟨c, hc, hb⟩)
theorem EntAt.mono {K : PySem.W.Frag} {H H' : Hp} {c : Cell} {e : Ent} (h : EntAt K H c e) (s : ∀ b o, b ∈ c.fp → H b = some o → H' b = some o) : EntAt K H' c e := by
  obtain ⟨⟨dx, h1⟩, h2, h3⟩ := h
  exact ⟨⟨dx, s _ _ (by simp [Cell.fp]) h1⟩, s _ _ (by simp [Cell.fp]) h2, s _ _ (by simp [Cell.fp]) h3⟩
theorem LedIn.mono {K : PySem.W.Frag} {H H' : Hp} {L kk l : Addr} {cs : List Cell} {es : List Ent} (h : LedIn K H L kk l cs es) (s : ∀ b o, (b = L ∨ b ∈ fpOf l cs) → H b = some o → H' b = some o) : LedIn K H' L kk l cs es := by
  obtain ⟨⟨dx, h1⟩, h2, h3, h4, h5⟩ := h
  exact ⟨⟨dx, s _ _ (.inl rfl) h1⟩, s _ _ (.inr (List.mem_cons_self ..)) h2, h3, fun i c e hc he => (h4 i c e hc he).mono fun b o hb z => s b o (.inr (mem_fp (List.mem_of_getElem? hc) hb)) z, h5⟩
theorem LedAt.mono {K : PySem.W.Frag} {H H' : Hp} {L kk : Addr} {es : List Ent} {F : List Addr} (h : LedAt K H L kk es F) (s : ∀ b o, (b = L ∨ b ∈ F) → H b = some o → H' b = some o) : LedAt K H' L kk es F := by
  obtain ⟨l, cs, h, rfl⟩ := h
  exact ⟨l, cs, h.mono s, rfl⟩
theorem LedAt.same {K : PySem.W.Frag} {H H' : Hp} {L kk : Addr} {es : List Ent} {F : List Addr} (h : LedAt K H L kk es F) (s : Same H H') : LedAt K H' L kk es F := h.mono fun b o _ z => s b o z
theorem LedIn.at {K : PySem.W.Frag} {H : Hp} {L kk l : Addr} {cs : List Cell} {es : List Ent} (h : LedIn K H L kk l cs es) {i : Nat} (hi : i < es.length) : ∃ c e, cs[i]? = some c ∧ es[i]? = some e ∧ EntAt K H c e := by
  have hc : i < cs.length := by rw [h.len]; exact hi
  exact ⟨cs[i], es[i], List.getElem?_eq_getElem hc, List.getElem?_eq_getElem hi, h.ent i _ _ (List.getElem?_eq_getElem hc) (List.getElem?_eq_getElem hi)⟩
theorem LedIn.tracked {K : PySem.W.Frag} {H : Hp} {L kk l : Addr} {cs : List Cell} {es : List Ent} (h : LedIn K H L kk l cs es) {b : Addr} (hb : b ∈ fpOf l cs) : ∃ o, H b = some o := by
  rcases List.mem_cons.mp hb with rfl | hb
  · exact ⟨_, h.lst⟩
  · obtain ⟨c, hc, hb⟩ := List.mem_flatMap.mp hb
    obtain ⟨i, hi, e⟩ := List.mem_iff_getElem.mp hc
    obtain ⟨c', e', h1, h2, ⟨dx, a1⟩, a2, a3⟩ := h.at (i := i) (by rw [← h.len]; exact hi)
    rw [List.getElem?_eq_getElem hi, e] at h1
    cases h1
    simp only [Cell.fp, List.mem_cons, List.not_mem_nil, or_false] at hb
    rcases hb with rfl | rfl | rfl
    · exact ⟨_, a1⟩
    · exact ⟨_, a2⟩
    · exact ⟨_, a3⟩
theorem LedAt.tracked {K : PySem.W.Frag} {H : Hp} {L kk : Addr} {es : List Ent} {F : List Addr} (h : LedAt K H L kk es F) {b : Addr} (hb : b ∈ F) : ∃ o, H b = some o := by
  obtain ⟨l, cs, h, rfl⟩ := h
  exact h.tracked hb
theorem LedAt.notin {K : PySem.W.Frag} {H : Hp} {L kk : Addr} {es : List Ent} {F : List Addr} (h : LedAt K H L kk es F) {b : Addr} (hb : H b = none) : b ∉ F := fun z => by
  obtain ⟨o, e⟩ := h.tracked z
  rw [hb] at e
  cases e
/-- all is kept but what stands in F -/
def KeepS (F : List Addr) (H H' : Hp) : Prop := ∀ b o, b ∉ F → H b = some o → H' b = some o
theorem KeepS.refl (F : List Addr) (H : Hp) : KeepS F H H := fun _ _ _ h => h
theorem KeepS.trans {F G : List Addr} {H H1 H2 : Hp} (a : KeepS F H H1) (b : KeepS G H1 H2) (s : ∀ x o, H x = some o → x ∈ G → x ∈ F) : KeepS F H H2 := fun x o n h => b x o (fun z => n (s x o h z)) (a x o n h)
theorem KeepS.same {F : List Addr} {H H' : Hp} (s : Same H H') : KeepS F H H' := fun b o _ h => s b o h
/-- one entry more -/
theorem LedIn.snoc {K : PySem.W.Frag} {H : Hp} {L kk l : Addr} {cs : List Cell} {es : List Ent} (h : LedIn K H L kk l cs es) {c : Cell} {e : Ent} (hc : EntAt K H c e) (n1 : ∀ b ∈ c.fp, b ∉ fpOf l cs) (n2 : c.fp.Nodup) (nL : L ≠ l) :
    LedIn K (upd H l (.lst ((cs.map fun c => V.ref c.p) ++ [.ref c.p]))) L kk l (cs ++ [c]) (es ++ [e]) := by
  have nl : ∀ b ∈ c.fp, b ≠ l := fun b hb z => n1 b hb (by rw [z]; exact List.mem_cons_self ..)
  have nl2 : ∀ c' ∈ cs, ∀ b ∈ c'.fp, b ≠ l := by
    intro c' hc' b hb z
    have nd := h.nd
    unfold fpOf at nd
    rw [List.nodup_cons] at nd
    exact nd.1 (List.mem_flatMap.mpr ⟨c', hc', by rw [← z]; exact hb⟩)
  obtain ⟨dx, ob⟩ := h.obj
  refine ⟨⟨dx, upd_far nL ob⟩, ?_, by simp [h.len], ?_, ?_⟩
  · rw [upd_same, List.map_append]
    rfl
  · intro i c' e' h1 h2
    by_cases hi : i < cs.length
    · rw [List.getElem?_append_left hi] at h1
      rw [List.getElem?_append_left (by rw [← h.len]; exact hi)] at h2
      exact (h.ent i c' e' h1 h2).mono fun b o hb z => upd_far (nl2 c' (List.mem_of_getElem? h1) b hb) z
    · have li : i = cs.length := by
        have := (List.getElem?_eq_some_iff.mp h1).1
        simp at this
        omega
      subst li
      rw [List.getElem?_append_right (Nat.le_refl _)] at h1
      rw [h.len, List.getElem?_append_right (Nat.le_refl _)] at h2
      simp at h1 h2
      subst h1 h2
      exact hc.mono fun b o hb z => upd_far (nl b hb) z
  · have nd := h.nd
    unfold fpOf at nd ⊢
    rw [List.flatMap_append]
    have e1 : [c].flatMap Cell.fp = c.fp := by simp [List.flatMap]
    rw [e1, ← List.cons_append, List.nodup_append]
    refine ⟨nd, n2, fun a ha b hb z => ?_⟩
    subst z
    exact n1 a hb ha
theorem lkL_sorts {kk l : Addr} : (fsLed kk l).lookup ("sorts" : Str) = some (.ref kk) := lk_at 0 rfl (by simp)
theorem lkL_entries {kk l : Addr} : (fsLed kk l).lookup ("entries" : Str) = some (.ref l) := lk_at 1 rfl (by unfold fsLed; simp only [List.take_succ_cons, List.take_zero, List.map_cons, List.map_nil]; decide +kernel)
theorem lkL_no {kk l : Addr} {m : Str} (h : m ∉ (["sorts", "entries"] : List Str)) : (fsLed kk l).lookup m = none := lk_none h
theorem lkK_no {d : Addr} {m : Str} (h : m ∉ (["uppers"] : List Str)) : (ksKinds d).lookup m = none := lk_none h
theorem lkE_its_kind {e : Ent} {li ln : Addr} : (fsEnt e li ln).lookup ("its_kind" : Str) = some (.str e.kind) := lk_at 0 rfl (by unfold fsEnt; simp only [List.take_succ_cons, List.take_zero, List.map_cons, List.map_nil]; decide +kernel)
theorem lkE_told {e : Ent} {li ln : Addr} : (fsEnt e li ln).lookup ("told" : Str) = some (.str e.text) := lk_at 1 rfl (by unfold fsEnt; simp only [List.take_succ_cons, List.take_zero, List.map_cons, List.map_nil]; decide +kernel)
theorem lkE_inner {e : Ent} {li ln : Addr} : (fsEnt e li ln).lookup ("inner" : Str) = some (.ref li) := lk_at 2 rfl (by unfold fsEnt; simp only [List.take_succ_cons, List.take_zero, List.map_cons, List.map_nil]; decide +kernel)
theorem lkE_noted {e : Ent} {li ln : Addr} : (fsEnt e li ln).lookup ("noted" : Str) = some (.ref ln) := lk_at 3 rfl (by unfold fsEnt; simp only [List.take_succ_cons, List.take_zero, List.map_cons, List.map_nil]; decide +kernel)
theorem lkE_blamed {e : Ent} {li ln : Addr} : (fsEnt e li ln).lookup ("blamed" : Str) = some (optN e.cause) := lk_at 4 rfl (by unfold fsEnt; simp only [List.take_succ_cons, List.take_zero, List.map_cons, List.map_nil]; decide +kernel)
theorem lkE_worked {e : Ent} {li ln : Addr} : (fsEnt e li ln).lookup ("worked" : Str) = some (optN e.work) := lk_at 5 rfl (by unfold fsEnt; simp only [List.take_succ_cons, List.take_zero, List.map_cons, List.map_nil]; decide +kernel)
theorem lkE_no {e : Ent} {li ln : Addr} {m : Str} (h : m ∉ (["its_kind", "told", "inner", "noted", "blamed", "worked"] : List Str)) : (fsEnt e li ln).lookup m = none := lk_none h
/-! ### what the methods promise -/
def isF (n : Nat) : V → Bool
  | .int i => decide (0 ≤ i ∧ i < (n : Int))
  | _ => false
def ent0 (kd tx : Str) (ms : List Nat) : Ent := ⟨kd, tx, ms, [], none, none⟩
def spEntInit (K : PySem.W.Frag) : Sp := fun vs H Q _ => ∃ (p l dx : Addr) (kd tx : Str) (ms : List Nat), vs = [.ref p, .str kd, .str tx, .ref l] ∧ H p = some (.ins (He.ga K "Entry") dx []) ∧ H l = some (.lst (ms.map natV)) ∧ ms.length ≤ 1000 ∧
  ∀ (H' : Hp) (li ln : Addr), Keep p H H' → H li = none → H ln = none → li ≠ ln → EntAt K H' ⟨p, li, ln⟩ (ent0 kd tx ms) → Q .non H'
def spLedInit (K : PySem.W.Frag) : Sp := fun vs H Q _ => ∃ (L kk dx : Addr), vs = [.ref L, .ref kk] ∧ H L = some (.ins (He.ga K "Ledger") dx []) ∧
  ∀ (H' : Hp) (F : List Addr), Keep L H H' → LedAt K H' L kk [] F → (∀ b ∈ F, H b = none) → Q .non H'
def spMany (K : PySem.W.Frag) : Sp := fun vs H Q _ => ∃ (L kk : Addr) (es : List Ent) (F : List Addr), vs = [.ref L] ∧ LedAt K H L kk es F ∧ Q (.int (es.length : Nat)) H
def spIsFault (K : PySem.W.Frag) : Sp := fun vs H Q _ => ∃ (L kk : Addr) (es : List Ent) (F : List Addr) (x : V), vs = [.ref L, x] ∧ LedAt K H L kk es F ∧ Any H x ∧ Q (.bl (isF es.length x)) H
def spEntry (K : PySem.W.Frag) : Sp := fun vs H Q E => ∃ (L kk l : Addr) (cs : List Cell) (es : List Ent) (x : V), vs = [.ref L, x] ∧ LedIn K H L kk l cs es ∧ Any H x ∧
  ((∃ (i : Nat) (c : Cell), x = natV i ∧ cs[i]? = some c ∧ Q (.ref c.p) H) ∨ (isF es.length x = false ∧ E (.ref (He.ga K "NoFault")) none H))
/-- a reader of one entry: what it tells of it -/
def spRead (K : PySem.W.Frag) (f : Ent → V) : Sp := fun vs H Q E => ∃ (L kk : Addr) (es : List Ent) (F : List Addr) (x : V), vs = [.ref L, x] ∧ LedAt K H L kk es F ∧ Any H x ∧
  ((∃ (i : Nat) (e : Ent), x = natV i ∧ es[i]? = some e ∧ Q (f e) H) ∨ (isF es.length x = false ∧ E (.ref (He.ga K "NoFault")) none H))
/-- .. a new list of it -/
def spReadL (K : PySem.W.Frag) (f : Ent → List V) : Sp := fun vs H Q E => ∃ (L kk : Addr) (es : List Ent) (F : List Addr) (x : V), vs = [.ref L, x] ∧ LedAt K H L kk es F ∧ Any H x ∧
  ((∃ (i : Nat) (e : Ent), x = natV i ∧ es[i]? = some e ∧ ∀ r, H r = none → Q (.ref r) (upd H r (.lst (f e)))) ∨ (isF es.length x = false ∧ E (.ref (He.ga K "NoFault")) none H))
/-- members that are looked at one behind another -/
def spWantAll (K : PySem.W.Frag) : Sp := fun vs H Q E => ∃ (L kk l : Addr) (es : List Ent) (F : List Addr) (xs : List V), vs = [.ref L, .ref l] ∧ LedAt K H L kk es F ∧ H l = some (.lst xs) ∧ xs.length ≤ 1000 ∧ (∀ x ∈ xs, Any H x) ∧ (∃ ds, DpAll K H xs ds ∧ SeqAt.shaped (.list ds) = true) ∧
  ∀ H', Same H H' → (xs = [] → E (.ref (He.ga K "Empty")) none H') ∧ (xs ≠ [] → (∀ x ∈ xs, isF es.length x = true) → Q .non H') ∧ (xs ≠ [] → (∃ x ∈ xs, isF es.length x = false) → E (.ref (He.ga K "NoFault")) none H')
def spCome (K : PySem.W.Frag) : Sp := fun vs H Q _ => ∃ (L kk l : Addr) (cs : List Cell) (es : List Ent) (c : Cell) (e : Ent), vs = [.ref L, .ref c.p] ∧ LedIn K H L kk l cs es ∧ es.length ≤ 5000 ∧ EntAt K H c e ∧ (∀ b ∈ c.fp, b ∉ fpOf l cs) ∧ c.fp.Nodup ∧
  ∀ H', Keep l H H' → LedIn K H' L kk l (cs ++ [c]) (es ++ [e]) → Q (.int (es.length : Nat)) H'
/-- a fault comes -/
def Comes (K : PySem.W.Frag) (H : Hp) (L kk : Addr) (es : List Ent) (F : List Addr) (e : Ent) (Q : VK) : Prop :=
  ∀ (H' : Hp) (F' : List Addr), KeepS F H H' → LedAt K H' L kk (es ++ [e]) F' → (∀ b ∈ F', b ∈ F ∨ H b = none) → (∀ b ∈ F, b ∈ F') → Q (.int (es.length : Nat)) H'
def isPlainO (ps : Pairs) : Option Str → Bool
  | some z => isName z && decide (z ∈ kinds ps) && !decide (z = "sheaf")
  | none => false
def spPlain (K : PySem.W.Frag) : Sp := fun vs H Q E => ∃ (L kk : Addr) (ps : Pairs) (es : List Ent) (F : List Addr) (x y : V) (ox oy : Option Str), vs = [.ref L, x, y] ∧ LedAt K H L kk es F ∧ KindsAt K H kk ps ∧ es.length ≤ 5000 ∧ Thg H x ox ∧ Thg H y oy ∧
  (isPlainO ps ox = false → ∀ H', Same H H' → E (.ref (He.ga K "NoKind")) none H') ∧ (isPlainO ps ox = true → oy = none → ∀ H', Same H H' → E (.ref (He.ga K "NoText")) none H') ∧
  ∀ kd tx, ox = some kd → oy = some tx → isPlainO ps ox = true → Comes K H L kk es F (ent0 kd tx []) Q
def spSheaf (K : PySem.W.Frag) : Sp := fun vs H Q E => ∃ (L kk l : Addr) (es : List Ent) (F : List Addr) (y : V) (oy : Option Str) (xs : List V), vs = [.ref L, y, .ref l] ∧ LedAt K H L kk es F ∧ es.length ≤ 5000 ∧ Thg H y oy ∧ H l = some (.lst xs) ∧ xs.length ≤ 1000 ∧ (∀ x ∈ xs, Any H x) ∧ (∃ ds, DpAll K H xs ds ∧ SeqAt.shaped (.list ds) = true) ∧
  (oy = none → E (.ref (He.ga K "NoText")) none H) ∧ (oy.isSome = true → xs = [] → ∀ H', Same H H' → E (.ref (He.ga K "Empty")) none H') ∧
  (oy.isSome = true → xs ≠ [] → (∃ x ∈ xs, isF es.length x = false) → ∀ H', Same H H' → E (.ref (He.ga K "NoFault")) none H') ∧
  ∀ tx ms, oy = some tx → xs = ms.map natV → ms ≠ [] → (∀ m ∈ ms, m < es.length) → Comes K H L kk es F (ent0 "sheaf" tx ms) Q
theorem Any.same {H H' : Hp} {x : V} (h : Any H x) (s : Same H H') : Any H' x := by
  rcases h with h | ⟨t, h⟩
  · exact .inl h
  · exact .inr ⟨t, h.mono fun a o _ z => s a o z⟩
theorem DpAll.length {K : PySem.W.Frag} {H : Hp} : ∀ {xs : List V} {ds : List PyData}, DpAll K H xs ds → xs.length = ds.length
  | _, _, .nil => rfl
  | _, _, .cons _ r => congrArg Nat.succ (DpAll.length r)
theorem eqv_nil (ds : List PyData) : PyData.eqv (.list ds) (.list []) = ds.isEmpty := by
  cases ds with
  | nil => rfl
  | cons d ds => rfl
theorem isF_nat {n : Nat} {x : V} (h : isF n x = true) : ∃ i : Nat, x = natV i ∧ i < n := by
  cases x with
  | int i =>
    have h2 : 0 ≤ i ∧ i < (n : Int) := of_decide_eq_true h
    exact ⟨i.toNat, by unfold natV; congr 1; omega, by omega⟩
  | _ => cases h
theorem dp_nats {K : PySem.W.Frag} {H : Hp} : ∀ ms : List Nat, DpAll K H (ms.map natV) (ms.map fun m : Nat => PyData.int (m : Int))
  | [] => .nil
  | m :: ms => .cons (.int _) (dp_nats ms)
theorem shaped_nats (ms : List Nat) : SeqAt.shaped (.list (ms.map fun m : Nat => PyData.int (m : Int))) = true :=
  shaped_list (fun d hd => by obtain ⟨m, _, rfl⟩ := List.mem_map.mp hd; rfl) (fun d hd => by obtain ⟨m, _, rfl⟩ := List.mem_map.mp hd; exact Nat.zero_le _)
theorem sqt_same {K : PySem.W.Frag} {H H' : Hp} {a : Addr} {xs : List V} (s : Same H H') (h : SqT K H a xs) : SqT K H' a xs := by
  rcases h with (h | ⟨o, h⟩) | h
  · exact .inl (.inl (s _ _ h))
  · exact .inl (.inr ⟨o, s _ _ h⟩)
  · exact .inr h
mutual
theorem dp_same {K : PySem.W.Frag} {H H' : Hp} (s : Same H H') : ∀ {d : PyData} {v : V}, Dp K H v d → Dp K H' v d
  | _, _, .non => .non
  | _, _, .bl b => .bl b
  | _, _, .int i => .int i
  | _, _, .str x => .str x
  | _, _, .lst h r => .lst (s.seq h) (dpAll_same s r)
  | _, _, .tup h r => .tup (sqt_same s h) (dpAll_same s r)
theorem dpAll_same {K : PySem.W.Frag} {H H' : Hp} (s : Same H H') : ∀ {ds : List PyData} {vs : List V}, DpAll K H vs ds → DpAll K H' vs ds
  | _, _, .nil => .nil
  | _, _, .cons h r => .cons (dp_same s h) (dpAll_same s r)
end
/-! ### an entry is made, then it comes -/
theorem same_make {H H' : Hp} {p dp C : Addr} (hp : H p = none) (hdp : H dp = none) (k : Keep p (upd (upd H dp (.own p)) p (.ins C dp [])) H') : Same H H' := fun b o e => by
  have n1 : b ≠ p := ne_of_none e hp
  have n2 : b ≠ dp := ne_of_none e hdp
  refine k b o n1 ?_
  rw [upd_ne n1, upd_ne n2]
  exact e
structure Enters (K : PySem.W.Frag) (H H3 : Hp) (L kk lst : Addr) (cs : List Cell) (es : List Ent) (c : Cell) : Prop where
  led : LedIn K H3 L kk lst cs es
  out : ∀ b ∈ c.fp, b ∉ fpOf lst cs
  nd : c.fp.Nodup
  same : Same H H3
  new : ∀ b ∈ c.fp, H b = none
theorem enters {K : PySem.W.Frag} {H H2 H3 : Hp} {L kk lst : Addr} {cs : List Cell} {es : List Ent} {p dp li ln C : Addr} (hL : LedIn K H L kk lst cs es) (s : Same H H2) (hp : H2 p = none) (hdp : H2 dp = none)
    (k : Keep p (upd (upd H2 dp (.own p)) p (.ins C dp [])) H3) (hli : upd (upd H2 dp (.own p)) p (.ins C dp []) li = none) (hln : upd (upd H2 dp (.own p)) p (.ins C dp []) ln = none) (nin : li ≠ ln) : Enters K H H3 L kk lst cs es ⟨p, li, ln⟩ := by
  have s2 : Same H2 (upd (upd H2 dp (.own p)) p (.ins C dp [])) := fun b o e => by rw [upd_ne (ne_of_none e hp), upd_ne (ne_of_none e hdp)]; exact e
  have sH : Same H H3 := s.trans (same_make hp hdp k)
  have new : ∀ b ∈ (Cell.mk p li ln).fp, H b = none := by
    intro b hb
    simp only [Cell.fp, List.mem_cons, List.not_mem_nil, or_false] at hb
    rcases hb with rfl | rfl | rfl
    · exact s.free hp
    · exact (s.trans s2).free hli
    · exact (s.trans s2).free hln
  have npi : p ≠ li := fun z => by rw [← z, upd_same] at hli; cases hli
  have npn : p ≠ ln := fun z => by rw [← z, upd_same] at hln; cases hln
  refine ⟨hL.mono fun b o _ z => sH b o z, fun b hb z => ?_, ?_, sH, new⟩
  · obtain ⟨o, e⟩ := hL.tracked z
    rw [new b hb] at e
    cases e
  · simp [Cell.fp, npi, npn, nin]
theorem comes_end {K : PySem.W.Frag} {H H3 H4 : Hp} {L kk lst : Addr} {cs : List Cell} {es : List Ent} {c : Cell} {e : Ent} {Q : VK} (q : Comes K H L kk es (fpOf lst cs) e Q) (x : Enters K H H3 L kk lst cs es c) (k : Keep lst H3 H4)
    (h : LedIn K H4 L kk lst (cs ++ [c]) (es ++ [e])) : Q (.int (es.length : Nat)) H4 := by
  have efp : fpOf lst (cs ++ [c]) = fpOf lst cs ++ c.fp := by
    unfold fpOf
    rw [List.flatMap_append, List.cons_append]
    simp [List.flatMap]
  refine q H4 (fpOf lst (cs ++ [c])) (fun b o n z => ?_) ⟨lst, cs ++ [c], h, rfl⟩ (fun b hb => ?_) (fun b hb => ?_)
  · exact k b o (fun y => n (by rw [y]; exact List.mem_cons_self ..)) (x.same b o z)
  · rw [efp] at hb
    rcases List.mem_append.mp hb with h | h
    · exact .inl h
    · exact .inr (x.new b h)
  · rw [efp]
    exact List.mem_append_left _ hb
end FS

set_option Elab.async false
set_option linter.all false
set_option maxRecDepth 100000
set_option maxHeartbeats 4000000
namespace FS
open PySem PySem.Spec PyProof.Rows L2
/-! ### names that a law draws -/
theorem letters_len : letters.cps.toList.length = 26 := by decide +kernel
theorem letters_at {d : Int} (h0 : 0 ≤ d) (h1 : d < 26) : ∃ c, atI letters.cps.toList d = some c ∧ c ∈ letters.cps.toList ∧ letters.cps.toList[d.toNat]? = some c := by
  obtain ⟨c, hc, e2, e⟩ := atI_get (xs := letters.cps.toList) h0 (by rw [letters_len]; exact h1)
  exact ⟨c, e, hc, e2⟩
theorem isName_of {cs : List Nat} (h1 : 1 ≤ cs.length) (h2 : cs.length ≤ 8) (h3 : ∀ c ∈ cs, c ∈ letters.cps.toList) : isName ⟨cs.toArray⟩ = true := by
  unfold isName
  have e : (⟨cs.toArray⟩ : Str).length = cs.length := lenSg cs
  rw [decide_eq_true (by rw [e]; exact ⟨h1, h2⟩), Bool.true_and, List.all_eq_true]
  intro c hc
  exact decide_eq_true (h3 c hc)
def spLName : Sp := fun vs H Q _ => ∃ (p : Addr) (n : Int), vs = [.ref p] ∧ n < 1000000000000000000 ∧ PotAt n H p ∧ ∀ (H' : Hp) (z : Str), Keep p H H' → PotAt (n + 20) H' p → isName z = true → Q (.str z) H'
/-- the names that stand in for one that is taken -/
def cand (k : Nat) : Str := Str.ofString "z" ++ ⟨#[letters.cps.toList.getD (k / 26) 0]⟩ ++ ⟨#[letters.cps.toList.getD (k % 26) 0]⟩
theorem cand_nd : ((List.range 260).map cand).Nodup := by decide +kernel
theorem cand_name : ∀ k, k < 260 → isName (cand k) = true := by
  have h : ((List.range 260).all fun k => isName (cand k)) = true := by decide +kernel
  intro k hk
  exact List.all_eq_true.mp h k (List.mem_range.mpr hk)
theorem nodup_le {α : Type} [DecidableEq α] : ∀ (l m : List α), l.Nodup → (∀ x ∈ l, x ∈ m) → l.length ≤ m.length
  | [], _, _, _ => Nat.zero_le _
  | a :: l, m, nd, h => by
    have ha := h a (List.mem_cons_self ..)
    have nd' := List.nodup_cons.mp nd
    have ih := nodup_le l (m.erase a) nd'.2 fun x hx => by
      have hne : x ≠ a := fun z => nd'.1 (by rw [← z]; exact hx)
      exact (List.mem_erase_of_ne hne).mpr (h x (List.mem_cons_of_mem _ hx))
    have e := List.length_erase_of_mem ha
    have pos : 0 < m.length := List.length_pos_of_mem ha
    rw [List.length_cons]
    omega
theorem cand_out {ts : List Str} (h : ts.length ≤ 200) : ¬ ∀ j, j < 260 → cand j ∈ ts := fun all => by
  have e := nodup_le ((List.range 260).map cand) ts cand_nd fun x hx => by
    obtain ⟨j, hj, rfl⟩ := List.mem_map.mp hx
    exact all j (List.mem_range.mp hj)
  rw [List.length_map, List.length_range] at e
  omega
end FS

set_option Elab.async false
set_option linter.all false
set_option maxRecDepth 100000
set_option maxHeartbeats 4000000
namespace FS
open PySem PySem.Spec PyProof.Rows L2
theorem inV_strs (z : Str) : ∀ ts : List Str, inV (.str z) (ts.map V.str) = decide (z ∈ ts)
  | [] => rfl
  | t :: ts => by
    have ih := inV_strs z ts
    unfold inV at ih ⊢
    rw [List.map_cons, List.any_cons, ih]
    by_cases h : z = t
    · subst h
      simp [eqV]
    · have h' : ¬ t = z := fun q => h q.symm
      simp [eqV, h, h']
theorem flat_strs : ∀ ts : List Str, (ts.map V.str).all flatV = true
  | [] => rfl
  | t :: ts => by rw [List.map_cons, List.all_cons, flat_strs ts]; rfl
theorem rd_inStrs {K : PySem.W.Frag} {H : Hp} {Q : VK} {z : Str} {t : Addr} {ts : List Str} (h : H t = some (.lst (ts.map V.str))) (q : Q (.bl (decide (z ∈ ts))) H) : rIn K false (.str z) (.ref t) H Q :=
  ⟨t, _, rfl, .inl (SqL.of h), rfl, flat_strs ts, by rw [if_neg Bool.false_ne_true, inV_strs]; exact q⟩
def spFresh : Sp := fun vs H Q _ => ∃ (p t : Addr) (n : Int) (ts : List Str), vs = [.ref p, .ref t] ∧ n < 1000000000000000000 ∧ PotAt n H p ∧ t ≠ p ∧ H t = some (.lst (ts.map V.str)) ∧ ts.length ≤ 200 ∧
  ∀ (H' : Hp) (z : Str), Keep p H H' → PotAt (n + 20) H' p → isName z = true → z ∉ ts → Q (.str z) H'
/-! ### pairs that a law draws -/
def so (q : Str × Str) : Option Str × Option Str := (some q.1, some q.2)
def PrsL (H : Hp) (r : Addr) (ps : Pairs) : Prop :=
  ∃ as : List Addr, H r = some (.lst (as.map V.ref)) ∧ as.length = ps.length ∧ ∀ (i : Nat) (q : Str × Str), ps[i]? = some q → ∃ a, as[i]? = some a ∧ H a = some (.tup [.str q.1, .str q.2])
def ShortP (ps : Pairs) : Prop := ∀ q ∈ ps, q.1.length ≤ 100000 ∧ q.2.length ≤ 100000
theorem isName_short {z : Str} (h : isName z = true) : z.length ≤ 100000 := by
  unfold isName at h
  have := of_decide_eq_true (Bool.and_eq_true_iff.mp h).1
  omega
/-- pairs that make kinds -/
def Kok (ps : Pairs) : Prop := kfold [] (ps.map so) = some ps
theorem Kok.nil : Kok [] := rfl
theorem kstep_so {ps : Pairs} {q : Str × Str} (h1 : isName q.1 = true) (h2 : q.1 ∉ kinds ps) (h3 : isName q.2 = true) (h4 : q.2 ≠ "sheaf") (h5 : q.2 ∈ kinds ps) : kstep ps (so q) = some (ps ++ [q]) := by
  show (if isName q.1 = true ∧ q.1 ∉ kinds ps ∧ isName q.2 = true ∧ q.2 ≠ "sheaf" ∧ q.2 ∈ kinds ps then some (ps ++ [(q.1, q.2)]) else none) = _
  rw [if_pos ⟨h1, h2, h3, h4, h5⟩]
theorem Kok.snoc {ps : Pairs} {q : Str × Str} (h : Kok ps) (h1 : isName q.1 = true) (h2 : q.1 ∉ kinds ps) (h3 : isName q.2 = true) (h4 : q.2 ≠ "sheaf") (h5 : q.2 ∈ kinds ps) : Kok (ps ++ [q]) := by
  unfold Kok at h ⊢
  rw [List.map_append, List.map_singleton, kfold_snoc, h]
  exact kstep_so h1 h2 h3 h4 h5
theorem kfold_names : ∀ (qs : Pairs) (ps ps' : Pairs), (∀ q ∈ ps, isName q.1 = true ∧ q.1 ≠ "sheaf") → kfold ps (qs.map so) = some ps' → ∀ q ∈ ps', isName q.1 = true ∧ q.1 ≠ "sheaf"
  | [], ps, ps', h, e => by cases e; exact h
  | q :: qs, ps, ps', h, e => by
    have e2 : (kstep ps (so q)).bind (fun p => kfold p (qs.map so)) = some ps' := e
    cases e3 : kstep ps (so q) with
    | none => rw [e3] at e2; cases e2
    | some p1 =>
      rw [e3] at e2
      refine kfold_names qs p1 ps' ?_ e2
      have e4 : (if isName q.1 = true ∧ q.1 ∉ kinds ps ∧ isName q.2 = true ∧ q.2 ≠ "sheaf" ∧ q.2 ∈ kinds ps then some (ps ++ [(q.1, q.2)]) else none) = some p1 := e3
      split at e4
      · rename_i c
        cases e4
        intro x hx
        rcases List.mem_append.mp hx with hx | hx
        · exact h x hx
        · rw [List.mem_singleton.mp hx]
          exact ⟨c.1, fun z => c.2.1 (by show q.1 ∈ _; rw [show q.1 = "sheaf" from z]; exact List.mem_cons_of_mem _ (List.mem_cons_self ..))⟩
      · cases e4
theorem Kok.names {ps : Pairs} (h : Kok ps) : ∀ q ∈ ps, isName q.1 = true ∧ q.1 ≠ "sheaf" := kfold_names ps [] ps (by simp) h
theorem name_fault : isName "fault" = true := by decide +kernel
theorem PrsL.at {H : Hp} {r : Addr} {ps : Pairs} (h : PrsL H r ps) (s : ShortP ps) : PrsAt H r (ps.map so) := by
  obtain ⟨as, h1, h2, h3⟩ := h
  refine ⟨as, h1, by rw [List.length_map]; exact h2, fun i q hq => ?_⟩
  rw [List.getElem?_map] at hq
  cases e : ps[i]? with
  | none => rw [e] at hq; cases hq
  | some q' =>
    rw [e] at hq
    cases hq
    obtain ⟨a, e1, e2⟩ := h3 i q' e
    have sq := s q' (List.mem_of_getElem? e)
    exact ⟨a, _, _, e1, e2, .str sq.1, .str sq.2⟩
theorem PrsL.same {H H' : Hp} {r : Addr} {ps : Pairs} (h : PrsL H r ps) (s : Same H H') : PrsL H' r ps := by
  obtain ⟨as, h1, h2, h3⟩ := h
  refine ⟨as, s _ _ h1, h2, fun i q hq => ?_⟩
  obtain ⟨a, e1, e2⟩ := h3 i q hq
  exact ⟨a, e1, s _ _ e2⟩
def spPairs : Sp := fun vs H Q _ => ∃ (p : Addr) (n : Int), vs = [.ref p] ∧ n < 1000000000000000 ∧ PotAt n H p ∧
  ∀ (H' : Hp) (r : Addr) (ps : Pairs), Keep p H H' → PotAt (n + 1000) H' p → H r = none → PrsL H' r ps → Kok ps → ps.length ≤ 8 → (∀ q ∈ ps, isName q.2 = true) → Q (.ref r) H'
/-- a kind of a plain fault, drawn -/
def spKind : Sp := fun vs H Q _ => ∃ (p r : Addr) (n : Int) (ps : Pairs), vs = [.ref p, .ref r] ∧ n < 1000000000000000000 ∧ PotAt n H p ∧ PrsL H r ps ∧ r ≠ p ∧ Kok ps ∧ ps.length ≤ 100 ∧
  ∀ (H' : Hp) (z : Str), Keep p H H' → PotAt (n + 1) H' p → isPlainO ps (some z) = true → Q (.str z) H'
/-- [name for name, above in pairs] -/
theorem lc_names {K : PySem.W.Frag} {H : Hp} {σ : L2.St} {vs : List Nat} {Q : VK} {r : Addr} {ps : Pairs} {a b : Nat} (h : PrsL H r ps) (hz : ps.length ≤ 1000) (hw : ∀ x y : V, wipe (((wipe σ vs).set a (some x)).set b (some y)) vs = wipe σ vs)
    (hl : ∀ x y : V, (((wipe σ vs).set a (some x)).set b (some y))[a]? = some (some x)) (q : ∀ D G, H D = none → Same H G → G D = some (.lst ((ps.map (·.1)).map V.str)) → Q (.ref D) G) :
    LcJ (gTup K 2 (gCons (gName a) (gCons (gName b) gNil))) tYes (tVar a) vs σ Q (Itl K r) H := by
  obtain ⟨as, h1, h2, h3⟩ := h
  refine lc_L (xs := as.map V.ref) (fun D i G => G D = some (.lst (((ps.take i).map (·.1)).map V.str)) ∧ Same H G) (fun D hD => ⟨upd_same, same_new hD⟩) (fun D i G hD _ hP => SqL.of (hP.2 _ _ h1)) ?_ ?_
  · rintro D i x G hD hi ⟨eD, sD⟩
    have li : i < ps.length := by
      have := (List.getElem?_eq_some_iff.mp hi).1
      rw [List.length_map] at this
      omega
    obtain ⟨c, e1, e2⟩ := h3 i ps[i] (List.getElem?_eq_getElem li)
    have ex : x = .ref c := by
      rw [List.getElem?_map, e1] at hi
      exact (Option.some.inj hi).symm
    subst ex
    refine ⟨c, _, rfl, .inl (.inl (sD _ _ e2)), rfl, _, _, rfl, _, _, rfl, rfl, hw _ _, ?_⟩
    refine rd_yes (rd_then ?_)
    refine ⟨_, hl _ _, _, eD, ?_, ?_, same_mut sD hD⟩
    · rw [List.length_map, List.length_map, List.length_take]
      exact Nat.lt_of_lt_of_le (show min i ps.length < 10000 by omega) (by decide)
    · rw [upd_same, List.take_succ, List.getElem?_eq_getElem li, List.map_append, List.map_append]
      rfl
  · rintro D G hD ⟨eD, sD⟩
    have e : as.length = ps.length := h2
    rw [List.length_map, e, List.take_length] at eD
    exact q D G hD sD eD
theorem PrsL.keep {H H' : Hp} {p r : Addr} {ps : Pairs} {n : Int} (h : PrsL H r ps) (k : Keep p H H') (hp : PotAt n H p) (nr : r ≠ p) : PrsL H' r ps := by
  obtain ⟨as, h1, h2, h3⟩ := h
  obtain ⟨xs, ep⟩ := hp.at
  refine ⟨as, k _ _ nr h1, h2, fun i q hq => ?_⟩
  obtain ⟨a, e1, e2⟩ := h3 i q hq
  exact ⟨a, e1, k _ _ (ne_of e2 ep (by intro z; cases z)) e2⟩
theorem PrsL.snoc {H : Hp} {r a : Addr} {as : List Addr} {ps : Pairs} {q : Str × Str} (h1 : H r = some (.lst (as.map V.ref))) (h2 : as.length = ps.length)
    (h3 : ∀ (i : Nat) (q : Str × Str), ps[i]? = some q → ∃ a, as[i]? = some a ∧ H a = some (.tup [.str q.1, .str q.2])) (ha : H a = some (.tup [.str q.1, .str q.2])) : PrsL (upd H r (.lst (as.map V.ref ++ [.ref a]))) r (ps ++ [q]) := by
  have nar : ∀ {c : Addr} {xs : List V}, H c = some (.tup xs) → c ≠ r := fun e => ne_of e h1 (by intro z; cases z)
  refine ⟨as ++ [a], by rw [upd_same, List.map_append]; rfl, by simp [h2], fun i q' hq => ?_⟩
  by_cases hi : i < ps.length
  · rw [List.getElem?_append_left hi] at hq
    obtain ⟨c, e1, e2⟩ := h3 i q' hq
    exact ⟨c, by rw [List.getElem?_append_left (by omega)]; exact e1, upd_far (nar e2) e2⟩
  · have li : i = ps.length := by
      have := (List.getElem?_eq_some_iff.mp hq).1
      simp at this
      omega
    subst li
    rw [List.getElem?_append_right (Nat.le_refl _)] at hq
    simp at hq
    subst hq
    exact ⟨a, by rw [← h2, List.getElem?_append_right (Nat.le_refl _)]; simp, upd_far (nar ha) ha⟩
end FS

set_option Elab.async false
set_option linter.all false
set_option maxRecDepth 100000
set_option maxHeartbeats 4000000
namespace FS
open PySem PySem.Spec PyProof.Rows L2
/-! ### a word between a statement and the rest -/
def tMid (t u : TS) : TS := fun D σ H => ∃ M : L2.St → Hp → Prop, t { D with nx := M } σ H ∧ ∀ σ' H', M σ' H' → u D σ' H'
theorem pss_mid {X : Cx} {st : Stmt} {rest : List Stmt} {t u : TS} (h1 : PS X st t) (h2 : PSs X rest u) : PSs X (st :: rest) (tMid t u) := ⟨fun pins s σ H D I h => by
  obtain ⟨M, a, b⟩ := h
  refine wpAny_execs_cons (thn (h1.run pins s σ H { D with nx := M } I a) fun f s1 q => ?_)
  cases f with
  | next =>
    obtain ⟨σ', H', I', q⟩ := q
    exact h2.run pins s1 σ' H' D I' (b σ' H' q)
  | ret v => exact q
  | brk => exact q
  | cont => exact q⟩
theorem rd_mid {t u : TS} {D : Ends} {σ : L2.St} {H : Hp} (M : L2.St → Hp → Prop) (a : t { D with nx := M } σ H) (b : ∀ σ' H', M σ' H' → u D σ' H') : tMid t u D σ H := ⟨M, a, b⟩
/-! ### a heap without some places -/
def outS (M : List Addr) (H : Hp) : Hp := fun b => if b ∈ M then none else H b
theorem outS_in {M : List Addr} {H : Hp} {b : Addr} (h : b ∈ M) : outS M H b = none := if_pos h
theorem outS_at {M : List Addr} {H : Hp} {b : Addr} (h : b ∉ M) : outS M H b = H b := if_neg h
theorem outS_le {M : List Addr} {H : Hp} : Same (outS M H) H := fun b o e => by
  by_cases h : b ∈ M
  · rw [outS_in h] at e; cases e
  · rw [outS_at h] at e; exact e
theorem outS_same {M M' : List Addr} {H H' : Hp} (s : ∀ b o, b ∉ M → H b = some o → b ∉ M' ∧ H' b = some o) : Same (outS M H) (outS M' H') := fun b o e => by
  by_cases h : b ∈ M
  · rw [outS_in h] at e; cases e
  · rw [outS_at h] at e
    obtain ⟨n, e'⟩ := s b o h e
    rw [outS_at n]
    exact e'
/-! ### what a law tells of a fault -/
def optD : Option Nat → PyData
  | none => .none
  | some n => .int (n : Int)
def natD (n : Nat) : PyData := .int (n : Int)
def entD (e : Ent) : PyData := .list [.str e.kind, .str e.text, .list (e.mem.map natD), .list (e.notes.map PyData.str), optD e.cause, optD e.work]
theorem dp_opt {K : PySem.W.Frag} {H : Hp} : ∀ o : Option Nat, Dp K H (optN o) (optD o)
  | none => .non
  | some _ => .int _
theorem dp_natD {K : PySem.W.Frag} {H : Hp} : ∀ ms : List Nat, DpAll K H (ms.map natV) (ms.map natD)
  | [] => .nil
  | _ :: ms => .cons (.int _) (dp_natD ms)
theorem dp_strs {K : PySem.W.Frag} {H : Hp} : ∀ zs : List Str, DpAll K H (zs.map V.str) (zs.map PyData.str)
  | [] => .nil
  | _ :: zs => .cons (.str _) (dp_strs zs)
theorem dpAll_snoc {K : PySem.W.Frag} {H : Hp} {v : V} {d : PyData} : ∀ {vs : List V} {ds : List PyData}, DpAll K H vs ds → Dp K H v d → DpAll K H (vs ++ [v]) (ds ++ [d])
  | _, _, .nil, h => .cons h .nil
  | _, _, .cons a r, h => .cons a (dpAll_snoc r h)
/-- a row of a fault, by lists -/
theorem dp_ent {K : PySem.W.Frag} {H : Hp} {r a b : Addr} {e : Ent} (h1 : H r = some (.lst [.str e.kind, .str e.text, .ref a, .ref b, optN e.cause, optN e.work])) (h2 : H a = some (.lst (e.mem.map natV))) (h3 : H b = some (.lst (e.notes.map V.str))) : Dp K H (.ref r) (entD e) :=
  .lst (SqL.of h1) (.cons (.str _) (.cons (.str _) (.cons (.lst (SqL.of h2) (dp_natD _)) (.cons (.lst (SqL.of h3) (dp_strs _)) (.cons (dp_opt _) (.cons (dp_opt _) .nil))))))
def spTold (K : PySem.W.Frag) : Sp := fun vs H Q _ => ∃ (L kk : Addr) (es : List Ent) (F : List Addr), vs = [.ref L] ∧ LedAt K H L kk es F ∧ es.length ≤ 1000 ∧
  ∀ (H' : Hp) (r : Addr), Same H H' → H r = none → Dp K H' (.ref r) (.list (es.map entD)) → Q (.ref r) H'
theorem told_step {K : PySem.W.Frag} {G G6 : Hp} {r a b f : Addr} {vs : List V} {ds : List PyData} {e : Ent} {o : HO} (gr : G r = some (.lst vs)) (s : Same G G6) (ha : G a = none) (hb : G b = none) (hf : G f = none)
    (ea : G6 a = some (.lst (e.mem.map natV))) (eb : G6 b = some (.lst (e.notes.map V.str))) (ef : G6 f = some (.lst [.str e.kind, .str e.text, .ref a, .ref b, optN e.cause, optN e.work])) (hd : DpAll K (outS [r] G) vs ds) :
    DpAll K (outS [r] (upd G6 r o)) (vs ++ [.ref f]) (ds ++ [entD e]) := by
  have nr : ∀ {x : Addr}, G x = none → x ∉ [r] := fun hx z => by
    rw [List.mem_singleton.mp z, gr] at hx
    cases hx
  have at6 : ∀ {x : Addr} {u : HO}, G x = none → G6 x = some u → outS [r] (upd G6 r o) x = some u := fun {x u} hx e => by
    rw [outS_at (nr hx), upd_ne (fun z => nr hx (by rw [z]; exact List.mem_singleton.mpr rfl))]
    exact e
  refine dpAll_snoc (dpAll_same (outS_same fun x u n e => ⟨n, ?_⟩) hd) (dp_ent (at6 hf ef) (at6 ha ea) (at6 hb eb))
  rw [upd_ne (fun z => n (by rw [z]; exact List.mem_singleton.mpr rfl))]
  exact s x u e
end FS

set_option Elab.async false
set_option linter.all false
set_option maxRecDepth 100000
set_option maxHeartbeats 4000000
namespace FS
open PySem PySem.Spec PyProof.Rows L2
/-! ### k12: a pot, a ledger, its kinds, the pairs, the entries, the sizes -/
structure S12 (K : PySem.W.Frag) (H : Hp) (p L kk r E S : Addr) (ps : Pairs) (es : List Ent) (F : List Addr) (n : Int) : Prop where
  pot : PotAt n H p
  led : LedAt K H L kk es F
  np : p ∉ E :: S :: F
  nE : E ∉ S :: F
  nS : S ∉ F
  nL : L ∉ p :: E :: S :: F
  kin : KindsAt K (outS (p :: E :: S :: F) H) kk ps
  prs : PrsL (outS (p :: E :: S :: F) H) r ps
  ent : ∃ evs, H E = some (.lst evs) ∧ DpAll K (outS (p :: E :: S :: F) H) evs (es.map entD)
  siz : ∃ ts : List Addr, H S = some (.lst (ts.map V.ref)) ∧ ts.length = es.length ∧ ∀ t ∈ ts, ∃ a b : Int, outS (p :: E :: S :: F) H t = some (.tup [.int a, .int b])
section
variable {K : PySem.W.Frag} {H H' : Hp} {p L kk r E S : Addr} {ps : Pairs} {es : List Ent} {F : List Addr} {n m : Int}
theorem S12.move (x : S12 K H p L kk r E S ps es F n) (pot : PotAt m H' p) (s : ∀ b o, b ≠ p → H b = some o → H' b = some o) : S12 K H' p L kk r E S ps es F m := by
  obtain ⟨h1, h2, h3, h4, h5, h6, h7, h8, ⟨evs, h9, h10⟩, ts, h11, h12, h13⟩ := x
  have so : Same (outS (p :: E :: S :: F) H) (outS (p :: E :: S :: F) H') := outS_same fun b o nb e => ⟨nb, s b o (fun z => nb (by rw [z]; exact List.mem_cons_self ..)) e⟩
  refine ⟨pot, h2.mono fun b o hb e => s b o (fun z => ?_) e, h3, h4, h5, h6, h7.same so, h8.same so, ⟨evs, s _ _ (fun z => ?_) h9, dpAll_same so h10⟩, ts, s _ _ (fun z => ?_) h11, h12, fun t ht => ?_⟩
  · rcases hb with hb | hb
    · exact h6 (by rw [← hb, z]; exact List.mem_cons_self ..)
    · exact h3 (by rw [← z]; exact List.mem_cons_of_mem _ (List.mem_cons_of_mem _ hb))
  · exact h3 (by rw [← z]; exact List.mem_cons_self ..)
  · exact h3 (by rw [← z]; exact List.mem_cons_of_mem _ (List.mem_cons_self ..))
  · obtain ⟨a, b, e⟩ := h13 t ht
    exact ⟨a, b, so _ _ e⟩
theorem S12.same (x : S12 K H p L kk r E S ps es F n) (s : Same H H') : S12 K H' p L kk r E S ps es F n := x.move (x.pot.same s) fun b o _ e => s b o e
theorem S12.keep (x : S12 K H p L kk r E S ps es F n) (k : Keep p H H') (pot : PotAt m H' p) : S12 K H' p L kk r E S ps es F m := x.move pot k
theorem S12.tracked (x : S12 K H p L kk r E S ps es F n) {b : Addr} (hb : b ∈ p :: E :: S :: F) : ∃ o, H b = some o := by
  rcases List.mem_cons.mp hb with rfl | hb
  · obtain ⟨xs, e⟩ := x.pot.at; exact ⟨_, e⟩
  · rcases List.mem_cons.mp hb with rfl | hb
    · obtain ⟨_, e, _⟩ := x.ent; exact ⟨_, e⟩
    · rcases List.mem_cons.mp hb with rfl | hb
      · obtain ⟨_, e, _⟩ := x.siz; exact ⟨_, e⟩
      · exact x.led.tracked hb
theorem S12.fresh (x : S12 K H p L kk r E S ps es F n) {b : Addr} (hb : H b = none) : b ∉ p :: E :: S :: F := fun z => by
  obtain ⟨o, e⟩ := x.tracked z
  rw [hb] at e
  cases e
/-- one fault more, in the ledger and in the entries -/
theorem S12.next {G H2 H3 : Hp} {evs : List V} {ts : List Addr} {t w ia ib : Addr} {a b : Int} {e : Ent} {F' : List Addr} (x : S12 K G p L kk r E S ps es F n) (ee : G E = some (.lst evs)) (es_ : G S = some (.lst (ts.map V.ref)))
    (ht : G t = some (.tup [.int a, .int b])) (nt : t ∉ p :: E :: S :: F) (k2 : KeepS F (upd G S (.lst (ts.map V.ref ++ [.ref t]))) H2) (l2 : LedAt K H2 L kk (es ++ [e]) F') (f1 : ∀ b ∈ F', b ∈ F ∨ upd G S (.lst (ts.map V.ref ++ [.ref t])) b = none)
    (s3 : Same H2 H3) (hw : H3 w = some (.lst [.str e.kind, .str e.text, .ref ia, .ref ib, optN e.cause, optN e.work])) (hia : H3 ia = some (.lst (e.mem.map natV))) (hib : H3 ib = some (.lst (e.notes.map V.str)))
    (nw : w ∉ p :: E :: S :: F') (nia : ia ∉ p :: E :: S :: F') (nib : ib ∉ p :: E :: S :: F') : S12 K (upd H3 E (.lst (evs ++ [.ref w]))) p L kk r E S ps (es ++ [e]) F' n := by
  obtain ⟨h1, h2, h3, h4, h5, h6, h7, h8, ⟨evs', h9, h10⟩, ts', h11, h12, h13⟩ := x
  rw [ee] at h9
  cases h9
  have ets : ts'.map V.ref = ts.map V.ref := by
    have hh := h11.symm.trans es_
    injection hh with hh
    injection hh
  have ets2 : ts' = ts := by
    have key : ∀ l m : List Addr, l.map V.ref = m.map V.ref → l = m := by
      intro l
      induction l with
      | nil => intro m h; cases m; rfl; cases h
      | cons c l ih =>
        intro m h
        cases m with
        | nil => cases h
        | cons d m =>
          rw [List.map_cons, List.map_cons] at h
          injection h with h1 h2
          rw [V.ref.inj h1, ih m h2]
    exact key _ _ ets
  subst ets2
  have nES : E ≠ S := fun z => h4 (by rw [z]; exact List.mem_cons_self ..)
  have npE : p ≠ E := fun z => h3 (by rw [z]; exact List.mem_cons_self ..)
  have npS : p ≠ S := fun z => h3 (by rw [z]; exact List.mem_cons_of_mem _ (List.mem_cons_self ..))
  have npF : p ∉ F := fun z => h3 (List.mem_cons_of_mem _ (List.mem_cons_of_mem _ z))
  have nEF : E ∉ F := fun z => h4 (List.mem_cons_of_mem _ z)
  have nLE : L ≠ E := fun z => h6 (by rw [z]; exact List.mem_cons_of_mem _ (List.mem_cons_self ..))
  have nLS : L ≠ S := fun z => h6 (by rw [z]; exact List.mem_cons_of_mem _ (List.mem_cons_of_mem _ (List.mem_cons_self ..)))
  -- what stood outside F (and is not S) stands in H3
  have st : ∀ b o, b ∉ F → b ≠ S → G b = some o → H3 b = some o := fun b o nb nS e => s3 _ _ (k2 b o nb (by rw [upd_ne nS]; exact e))
  -- .. and is not in F'
  have out : ∀ b o, b ∉ F → G b = some o → b ∉ F' := fun b o nb e z => by
    rcases f1 b z with h | h
    · exact nb h
    · by_cases hS : b = S
      · rw [hS, upd_same] at h; cases h
      · rw [upd_ne hS, e] at h; cases h
  obtain ⟨xs, ep⟩ := h1.at
  have npF' : p ∉ F' := out p _ npF ep
  have nEF' : E ∉ F' := out E _ nEF ee
  have nSF' : S ∉ F' := out S _ h5 es_
  have nLF' : L ∉ F' := fun z => by
    obtain ⟨l, cs, hL, rfl⟩ := h2
    obtain ⟨dx, oL⟩ := hL.obj
    exact out L _ (fun y => h6 (List.mem_cons_of_mem _ (List.mem_cons_of_mem _ (List.mem_cons_of_mem _ y)))) oL z
  have SO : Same (outS (p :: E :: S :: F) G) (outS (p :: E :: S :: F') (upd H3 E (.lst (evs ++ [.ref w])))) := outS_same fun b o nb e => by
    have n1 : b ≠ p := fun z => nb (by rw [z]; exact List.mem_cons_self ..)
    have n2 : b ≠ E := fun z => nb (by rw [z]; exact List.mem_cons_of_mem _ (List.mem_cons_self ..))
    have n3 : b ≠ S := fun z => nb (by rw [z]; exact List.mem_cons_of_mem _ (List.mem_cons_of_mem _ (List.mem_cons_self ..)))
    have n4 : b ∉ F := fun z => nb (List.mem_cons_of_mem _ (List.mem_cons_of_mem _ (List.mem_cons_of_mem _ z)))
    refine ⟨?_, by rw [upd_ne n2]; exact st b o n4 n3 e⟩
    intro z
    rcases List.mem_cons.mp z with z | z
    · exact n1 z
    · rcases List.mem_cons.mp z with z | z
      · exact n2 z
      · rcases List.mem_cons.mp z with z | z
        · exact n3 z
        · exact out b o n4 e z
  have atO : ∀ {c : Addr} {o : HO}, c ∉ p :: E :: S :: F' → H3 c = some o → outS (p :: E :: S :: F') (upd H3 E (.lst (evs ++ [.ref w]))) c = some o := fun {c o} nc e => by
    rw [outS_at nc, upd_ne (fun z => nc (by rw [z]; exact List.mem_cons_of_mem _ (List.mem_cons_self ..)))]
    exact e
  refine ⟨?_, ?_, ?_, ?_, nSF', ?_, h7.same SO, h8.same SO, ⟨_, upd_same, ?_⟩, ts' ++ [t], ?_, by simp [h12], ?_⟩
  · obtain ⟨a0, b0, c0, e0, rest⟩ := h1
    exact ⟨a0, b0, c0, by rw [upd_ne npE]; exact st _ _ npF npS e0, rest⟩
  · refine l2.mono fun c o hc e => ?_
    have nc : c ≠ E := by
      rcases hc with hc | hc
      · rw [hc]; exact nLE
      · exact fun z => nEF' (by rw [← z]; exact hc)
    rw [upd_ne nc]
    exact s3 _ _ e
  · simp [npE, npS, npF']
  · simp [nES, nEF']
  · have nLp : L ≠ p := fun z => h6 (by rw [z]; exact List.mem_cons_self ..)
    simp [nLp, nLE, nLS, nLF']
  · rw [List.map_append]
    exact dpAll_snoc (dpAll_same SO h10) (dp_ent (atO nw hw) (atO nia hia) (atO nib hib))
  · rw [upd_ne nES.symm, List.map_append]
    exact s3 _ _ (k2 _ _ h5 upd_same)
  · intro t' ht'
    rcases List.mem_append.mp ht' with h | h
    · obtain ⟨a', b', e'⟩ := h13 t' h
      exact ⟨a', b', SO _ _ e'⟩
    · rw [List.mem_singleton.mp h]
      exact ⟨a, b, SO _ _ (by rw [outS_at nt]; exact ht)⟩
theorem upd_comm {G : Hp} {a b : Addr} {u v : HO} (h : a ≠ b) : upd (upd G a u) b v = upd (upd G b v) a u := by
  funext c
  by_cases h1 : c = a
  · subst h1
    rw [upd_ne h, upd_same, upd_same]
  · by_cases h2 : c = b
    · subst h2
      rw [upd_same, upd_ne h1, upd_same]
    · rw [upd_ne h2, upd_ne h1, upd_ne h1, upd_ne h2]
theorem upd_back {G : Hp} {a : Addr} {u v : HO} (h : G a = some v) : upd (upd G a u) a v = G := by
  funext c
  by_cases h1 : c = a
  · subst h1
    rw [upd_same, h]
  · rw [upd_ne h1, upd_ne h1]
theorem S12.ends {G Gk H2 H3 : Hp} {evs : List V} {ts : List Addr} {t w ia ib : Addr} {a b : Int} {e : Ent} {F' : List Addr} (x : S12 K G p L kk r E S ps es F n) (ee : G E = some (.lst evs)) (es_ : G S = some (.lst (ts.map V.ref)))
    (ht : G t = some (.tup [.int a, .int b])) (nt : t ∉ p :: E :: S :: F) (kg : ∀ b o, b ≠ p → upd G S (.lst (ts.map V.ref ++ [.ref t])) b = some o → Gk b = some o) (pk : PotAt m Gk p) (k2 : KeepS F Gk H2) (l2 : LedAt K H2 L kk (es ++ [e]) F') (f1 : ∀ b ∈ F', b ∈ F ∨ Gk b = none)
    (s3 : Same H2 H3) (hw : H3 w = some (.lst [.str e.kind, .str e.text, .ref ia, .ref ib, optN e.cause, optN e.work])) (hia : H3 ia = some (.lst (e.mem.map natV))) (hib : H3 ib = some (.lst (e.notes.map V.str)))
    (nw : w ∉ p :: E :: S :: F') (nia : ia ∉ p :: E :: S :: F') (nib : ib ∉ p :: E :: S :: F') : S12 K (upd H3 E (.lst (evs ++ [.ref w]))) p L kk r E S ps (es ++ [e]) F' m := by
  have nS : S ≠ p := fun z => x.np (by rw [← z]; exact List.mem_cons_of_mem _ (List.mem_cons_self ..))
  have nE : E ≠ p := fun z => x.np (by rw [← z]; exact List.mem_cons_self ..)
  have nES : E ≠ S := fun z => x.nE (by rw [← z]; exact List.mem_cons_self ..)
  have ntS : t ≠ S := fun z => nt (by rw [← z]; exact List.mem_cons_of_mem _ (List.mem_cons_of_mem _ (List.mem_cons_self ..)))
  have ntp : t ≠ p := fun z => nt (by rw [← z]; exact List.mem_cons_self ..)
  have hb := upd_back (u := .lst (ts.map V.ref)) (kg S _ nS upd_same)
  have x' : S12 K (upd Gk S (.lst (ts.map V.ref))) p L kk r E S ps es F m := x.move (pk.mut nS) fun b o nb hob => by
    by_cases h : b = S
    · rw [h, es_] at hob
      rw [h, upd_same, hob]
    · rw [upd_ne h]
      exact kg b o nb (by rw [upd_ne h]; exact hob)
  rw [← hb] at k2 f1
  exact x'.next (by rw [upd_ne nES]; exact kg E _ nE (by rw [upd_ne nES]; exact ee)) upd_same (by rw [upd_ne ntS]; exact kg t _ ntp (by rw [upd_ne ntS]; exact ht)) nt k2 l2 f1 s3 hw hia hib nw nia nib
theorem S12.out4 {H2 : Hp} {F' : List Addr} {o1 o2 o3 : HO} (e1 : H2 p = some o1) (e2 : H2 E = some o2) (e3 : H2 S = some o3) (l2 : LedAt K H2 L kk es F') {b : Addr} (hb : H2 b = none) : b ∉ p :: E :: S :: F' := fun z => by
  have no : ∀ {o : HO}, H2 b ≠ some o := fun h => by rw [hb] at h; cases h
  rcases List.mem_cons.mp z with h | z
  · exact no (by rw [h]; exact e1)
  · rcases List.mem_cons.mp z with h | z
    · exact no (by rw [h]; exact e2)
    · rcases List.mem_cons.mp z with h | z
      · exact no (by rw [h]; exact e3)
      · obtain ⟨o, e⟩ := l2.tracked z
        exact no e
theorem eqv_nats : ∀ ms : List Nat, PyData.eqv (.list (ms.map natD)) (.list (ms.map natD)) = true := by
  intro ms
  refine SeqAt.eqv_refl _ (canLayAll_of _ fun d hd => ?_)
  obtain ⟨m, _, rfl⟩ := List.mem_map.mp hd
  rfl
theorem S12.mid {G Gk : Hp} (x : S12 K G p L kk r E S ps es F n) (kg : ∀ b o, b ≠ p → b ≠ S → G b = some o → Gk b = some o) :
    LedAt K Gk L kk es F ∧ KindsAt K Gk kk ps ∧ PrsL Gk r ps ∧ r ≠ p ∧ ∃ dx l, Gk L = some (.ins (He.ga K "Ledger") dx (fsLed kk l)) := by
  have nSF := x.nS
  have npF : p ∉ F := fun z => x.np (List.mem_cons_of_mem _ (List.mem_cons_of_mem _ z))
  have nLp : L ≠ p := fun z => x.nL (by rw [z]; exact List.mem_cons_self ..)
  have nLS : L ≠ S := fun z => x.nL (by rw [z]; exact List.mem_cons_of_mem _ (List.mem_cons_of_mem _ (List.mem_cons_self ..)))
  have so : Same (outS (p :: E :: S :: F) G) Gk := fun b o e => by
    have hb : b ∉ p :: E :: S :: F := fun z => by rw [outS_in z] at e; cases e
    refine kg b o (fun z => hb (by rw [z]; exact List.mem_cons_self ..)) (fun z => hb (by rw [z]; exact List.mem_cons_of_mem _ (List.mem_cons_of_mem _ (List.mem_cons_self ..)))) (outS_le _ _ e)
  refine ⟨x.led.mono fun b o hb e => kg b o (fun z => ?_) (fun z => ?_) e, x.kin.same so, x.prs.same so, fun z => ?_, ?_⟩
  · rcases hb with hb | hb
    · exact nLp (hb.symm.trans z)
    · exact npF (by rw [← z]; exact hb)
  · rcases hb with hb | hb
    · exact nLS (hb.symm.trans z)
    · exact nSF (by rw [← z]; exact hb)
  · obtain ⟨as, ea, _⟩ := x.prs
    rw [z, outS_in (List.mem_cons_self ..)] at ea
    cases ea
  · obtain ⟨l, cs, hL, _⟩ := x.led
    obtain ⟨dx, ob⟩ := hL.obj
    exact ⟨dx, l, kg _ _ nLp nLS ob⟩
/-- another pot -/
theorem S12.repot {p' : Addr} (x : S12 K H p L kk r E S ps es F n) (s : Same H H') (hp : H p' = none) (pot : PotAt m H' p') : S12 K H' p' L kk r E S ps es F m := by
  have nf := x.fresh hp
  obtain ⟨h1, h2, h3, h4, h5, h6, h7, h8, ⟨evs, h9, h10⟩, ts, h11, h12, h13⟩ := x
  have SO : Same (outS (p :: E :: S :: F) H) (outS (p' :: E :: S :: F) H') := outS_same fun b o nb e => ⟨fun z => by
    rcases List.mem_cons.mp z with z | z
    · rw [z, hp] at e; cases e
    · exact nb (List.mem_cons_of_mem _ z), s _ _ e⟩
  refine ⟨pot, h2.same s, fun z => nf (List.mem_cons_of_mem _ z), h4, h5, fun z => ?_, h7.same SO, h8.same SO, ⟨evs, s _ _ h9, dpAll_same SO h10⟩, ts, s _ _ h11, h12, fun t ht => ?_⟩
  · rcases List.mem_cons.mp z with z | z
    · obtain ⟨l, cs, hL, _⟩ := h2
      obtain ⟨dx, ob⟩ := hL.obj
      rw [z, hp] at ob
      cases ob
    · exact h6 (List.mem_cons_of_mem _ z)
  · obtain ⟨a, b, e⟩ := h13 t ht
    exact ⟨a, b, SO _ _ e⟩
/-- the first state: kinds and pairs stood in H0 -/
theorem S12.init {H0 : Hp} (pot : PotAt n H p) (po0 : ∃ xs, H0 p = some (.lst xs)) (led : LedAt K H L kk [] F) (np : p ∉ E :: S :: F) (nE : E ∉ S :: F) (nS : S ∉ F) (nL : L ∉ p :: E :: S :: F) (kin : KindsAt K H0 kk ps) (prs : PrsL H0 r ps) (nr : r ≠ p)
    (so : ∀ b o, b ≠ p → H0 b = some o → b ∉ E :: S :: F ∧ H b = some o) (eE : H E = some (.lst [])) (eS : H S = some (.lst [])) : S12 K H p L kk r E S ps [] F n := by
  obtain ⟨xs, po0⟩ := po0
  have SO : Same (outS [p] H0) (outS (p :: E :: S :: F) H) := outS_same fun b o nb e => by
    have n1 : b ≠ p := fun z => nb (List.mem_singleton.mpr z)
    obtain ⟨a, c⟩ := so b o n1 e
    exact ⟨fun z => (List.mem_cons.mp z).elim n1 a, c⟩
  have at0 : ∀ {b : Addr} {o : HO}, b ≠ p → H0 b = some o → outS [p] H0 b = some o := fun nb e => by
    rw [outS_at (fun z => nb (List.mem_singleton.mp z))]
    exact e
  refine ⟨pot, led, np, nE, nS, nL, KindsAt.same ?_ SO, PrsL.same ?_ SO, ⟨[], eE, .nil⟩, [], eS, rfl, by simp⟩
  · obtain ⟨dx, d, e1, e2⟩ := kin
    exact ⟨dx, d, at0 (ne_of e1 po0 (by intro z; cases z)) e1, at0 (ne_of e2 po0 (by intro z; cases z)) e2⟩
  · obtain ⟨as, e1, e2, e3⟩ := prs
    refine ⟨as, at0 nr e1, e2, fun i q hq => ?_⟩
    obtain ⟨a, f1, f2⟩ := e3 i q hq
    exact ⟨a, f1, at0 (ne_of f2 po0 (by intro z; cases z)) f2⟩
end
def spCome12 (K : PySem.W.Frag) : Sp := fun vs H Q _ => ∃ (p L kk r E S : Addr) (ps : Pairs) (es : List Ent) (F : List Addr) (n : Int), vs = [.ref p, .ref L, .ref r, .ref E, .ref S] ∧ S12 K H p L kk r E S ps es F n ∧ Kok ps ∧ ps.length ≤ 100 ∧ n < 1000000000 ∧ es.length ≤ 30 ∧
  (∀ e ∈ es, True) ∧ ∀ (H' : Hp) (e : Ent) (F' : List Addr), S12 K H' p L kk r E S ps (es ++ [e]) F' (n + 1000) → Texty e.text → isName e.kind = true → e.mem.length ≤ 6 → (∀ m ∈ e.mem, m < es.length) → e.notes = [] → e.cause = none → e.work = none →
    (∀ b o, b ∉ p :: E :: S :: F → H b = some o → H' b = some o) → Q (.bl true) H'
end FS

set_option Elab.async false
set_option linter.all false
set_option maxRecDepth 100000
set_option maxHeartbeats 4000000
namespace FS
open PySem PySem.Spec PyProof.Rows L2
/-! ### data that repr shows, with its bulk -/
structure Shw (n k : Nat) (d : PyData) : Prop where
  lay : d.hasDict = false
  dep : d.depth ≤ k
  sh : d.showable = true
  lv : d.leavesShort 13 = true
  bk : d.bulk ≤ n
structure ShwAll (n k : Nat) (ds : List PyData) : Prop where
  lay : PyData.hasDictAll ds = false
  dep : PyData.depthAll ds ≤ k
  sh : PyData.showableAll ds = true
  lv : PyData.leavesShortAll 13 ds = true
  bk : PyData.bulkAll ds ≤ n
theorem ShwAll.nil {n k : Nat} : ShwAll n k [] := ⟨rfl, Nat.zero_le _, rfl, rfl, Nat.zero_le _⟩
theorem ShwAll.cons {n m k : Nat} {d : PyData} {ds : List PyData} (h : Shw n k d) (t : ShwAll m k ds) : ShwAll (n + 1 + m) k (d :: ds) := by
  refine ⟨?_, Nat.max_le.mpr ⟨h.dep, t.dep⟩, ?_, ?_, ?_⟩
  · show (d.hasDict || PyData.hasDictAll ds) = false
    rw [h.lay, t.lay]; rfl
  · show (d.showable && PyData.showableAll ds) = true
    rw [h.sh, t.sh]; rfl
  · show (d.leavesShort 13 && PyData.leavesShortAll 13 ds) = true
    rw [h.lv, t.lv]; rfl
  · show d.bulk + 1 + PyData.bulkAll ds ≤ _
    have := h.bk
    have := t.bk
    omega
theorem ShwAll.mono {n m k j : Nat} {ds : List PyData} (h : ShwAll n k ds) (l : n ≤ m) (l2 : k ≤ j) : ShwAll m j ds := ⟨h.lay, Nat.le_trans h.dep l2, h.sh, h.lv, Nat.le_trans h.bk l⟩
theorem Shw.mono {n m k j : Nat} {d : PyData} (h : Shw n k d) (l : n ≤ m) (l2 : k ≤ j) : Shw m j d := ⟨h.lay, Nat.le_trans h.dep l2, h.sh, h.lv, Nat.le_trans h.bk l⟩
theorem ShwAll.of {n k : Nat} : ∀ {ds : List PyData}, (∀ d ∈ ds, Shw n k d) → ShwAll (ds.length * (n + 1)) k ds
  | [], _ => .nil
  | d :: ds, h => (ShwAll.cons (h d (List.mem_cons_self ..)) (ShwAll.of fun x hx => h x (List.mem_cons_of_mem _ hx))).mono (by rw [List.length_cons, Nat.succ_mul]; omega) (Nat.le_refl _)
theorem Shw.list {n k : Nat} {ds : List PyData} (h : ShwAll n k ds) : Shw n (k + 1) (.list ds) := ⟨h.lay, Nat.succ_le_succ h.dep, h.sh, h.lv, h.bk⟩
theorem Shw.none : Shw 0 0 .none := ⟨rfl, Nat.le_refl _, rfl, rfl, Nat.le_refl _⟩
theorem Shw.nat {m : Nat} (h : m < 10 ^ 12) : Shw 0 0 (natD m) := by
  refine ⟨rfl, Nat.le_refl _, ?_, ?_, Nat.le_refl _⟩
  · show decide ((m : Int).natAbs.log2 < 1920) = true
    refine decide_eq_true (Nat.lt_of_le_of_lt (show (m : Int).natAbs.log2 ≤ 63 from ?_) (by decide))
    by_cases z : m = 0
    · subst z; decide
    · have : m.log2 < 64 := (Nat.log2_lt z).mpr (by omega)
      show m.log2 ≤ 63
      omega
  · show decide ((PyData.shown (.int (m : Int))).length ≤ 13) = true
    refine decide_eq_true ?_
    have := int_text_length_le10 (a := (m : Int)) (k := 12) (by decide) (by show m < 10 ^ 12; exact h)
    exact Nat.le_trans (Nat.le_of_eq (PySem.ofString_length _)) this
theorem Shw.str {z : Str} {n : Nat} (h : z.length ≤ n) (c : ∀ c ∈ z.cps.toList, c < 16 ^ 8) : Shw n 0 (.str z) :=
  ⟨rfl, Nat.le_refl _, rfl, List.all_eq_true.mpr fun x hx => decide_eq_true (c x hx), h⟩
theorem rd_repr {K : PySem.W.Frag} {H : Hp} {Q : VK} {a : Addr} {d : PyData} {n : Nat} (hd : Dp K H (.ref a) d) (h : Shw n 64 d) (hn : n ≤ 1048576) (q : Q (.str d.shown) H) : uRepr K [.ref a] H Q :=
  ⟨a, d, rfl, hd, h.sh, h.lay, h.dep, PyData.shown_fits_bulk (B := 13) (by decide) (by decide) h.lv (Nat.le_trans h.bk (by omega)), q⟩
/-- an entry whose parts are small -/
structure EntOk (e : Ent) : Prop where
  tx : e.text.length ≤ 100 ∧ ∀ c ∈ e.text.cps.toList, c < 16 ^ 8
  kd : e.kind.length ≤ 100 ∧ ∀ c ∈ e.kind.cps.toList, c < 16 ^ 8
  mem : e.mem.length ≤ 100 ∧ ∀ m ∈ e.mem, m < 10 ^ 12
  nts : e.notes.length ≤ 100 ∧ ∀ z ∈ e.notes, z.length ≤ 40 ∧ ∀ c ∈ z.cps.toList, c < 16 ^ 8
  cs : ∀ m, e.cause = some m → m < 10 ^ 12
  wk : ∀ m, e.work = some m → m < 10 ^ 12
theorem shw_opt {o : Option Nat} (h : ∀ m, o = some m → m < 10 ^ 12) : Shw 0 0 (optD o) := by
  cases o with
  | none => exact .none
  | some m => exact .nat (h m rfl)
theorem EntOk.shw {e : Ent} (h : EntOk e) : Shw 4600 2 (entD e) := by
  have a1 : ShwAll (e.mem.length * 1) 0 (e.mem.map natD) := by
    have := ShwAll.of (n := 0) (k := 0) (ds := e.mem.map natD) fun d hd => by
      obtain ⟨m, hm, rfl⟩ := List.mem_map.mp hd
      exact .nat (h.mem.2 m hm)
    rw [List.length_map] at this
    exact this
  have a2 : ShwAll (e.notes.length * 41) 0 (e.notes.map PyData.str) := by
    have := ShwAll.of (n := 40) (k := 0) (ds := e.notes.map PyData.str) fun d hd => by
      obtain ⟨m, hm, rfl⟩ := List.mem_map.mp hd
      exact .str (h.nts.2 m hm).1 (h.nts.2 m hm).2
    rw [List.length_map] at this
    exact this
  have l1 := h.mem.1
  have l2 := h.nts.1
  have t := ShwAll.cons ((Shw.str h.kd.1 h.kd.2).mono (Nat.le_refl _) (show 0 ≤ 1 by omega)) (ShwAll.cons ((Shw.str h.tx.1 h.tx.2).mono (Nat.le_refl _) (show 0 ≤ 1 by omega)) (ShwAll.cons (Shw.list a1) (ShwAll.cons (Shw.list a2)
    (ShwAll.cons ((shw_opt h.cs).mono (Nat.le_refl _) (show 0 ≤ 1 by omega)) (ShwAll.cons ((shw_opt h.wk).mono (Nat.le_refl _) (show 0 ≤ 1 by omega)) (ShwAll.nil (n := 0)))))))
  exact (Shw.list t).mono (by omega) (Nat.le_refl _)
theorem ents_shw {es : List Ent} (h : ∀ e ∈ es, EntOk e) (l : es.length ≤ 200) : Shw 1000000 64 (.list (es.map entD)) := by
  have := ShwAll.of (n := 4600) (k := 2) (ds := es.map entD) fun d hd => by
    obtain ⟨e, he, rfl⟩ := List.mem_map.mp hd
    exact (h e he).shw
  rw [List.length_map] at this
  exact (Shw.list this).mono (by omega) (by omega)
end FS

set_option Elab.async false
set_option linter.all false
set_option maxRecDepth 100000
set_option maxHeartbeats 4000000
namespace FS
open PySem PySem.Spec PyProof.Rows L2
theorem room_un {k : Nat} {A : Around} (r : Room k A) : A.units + 100 < cLine := by have := r.un; omega
/-! ### the script: a list that stays -/
def FzL (K : PySem.W.Frag) (H : Hp) (a : Addr) (xs : List V) : Prop := (∃ o, H a = some (.frz o (.lst xs))) ∨ ∀ H', SqL K H' a xs
theorem FzL.of {K : PySem.W.Frag} {H : Hp} {a : Addr} {xs : List V} (h : SqL K H a xs) (o : Only H) : FzL K H a xs := by
  rcases h with (h | ⟨o, h⟩) | h
  · rcases o a with z | ⟨o, ys, z⟩
    · rw [z] at h; cases h
    · rw [z] at h; cases h
  · exact .inl ⟨o, h⟩
  · exact .inr fun H' => .inr h
theorem FzL.sq {K : PySem.W.Frag} {H : Hp} {a : Addr} {xs : List V} (h : FzL K H a xs) : SqL K H a xs := by
  rcases h with ⟨o, h⟩ | h
  · exact .inl (.inr ⟨o, h⟩)
  · exact h H
/-- frozen things stay -/
theorem FzL.move {K : PySem.W.Frag} {H H' : Hp} {a : Addr} {xs : List V} (h : FzL K H a xs) (s : ∀ o y, H a = some (.frz o y) → H' a = some (.frz o y)) : FzL K H' a xs := by
  rcases h with ⟨o, h⟩ | h
  · exact .inl ⟨o, s _ _ h⟩
  · exact .inr h
theorem FzL.same {K : PySem.W.Frag} {H H' : Hp} {a : Addr} {xs : List V} (h : FzL K H a xs) (s : Same H H') : FzL K H' a xs := h.move fun o y e => s _ _ e
theorem FzL.keep {K : PySem.W.Frag} {H H' : Hp} {a p : Addr} {xs ys : List V} (h : FzL K H a xs) (k : Keep p H H') (hp : H p = some (.lst ys)) : FzL K H' a xs := h.move fun o y e => k _ _ (ne_of e hp (by intro z; cases z)) e
theorem FzL.keepI {K : PySem.W.Frag} {H H' : Hp} {a p C dx : Addr} {xs : List V} {fs : List (Str × V)} (h : FzL K H a xs) (k : Keep p H H') (hp : H p = some (.ins C dx fs)) : FzL K H' a xs := h.move fun o y e => k _ _ (ne_of e hp (by intro z; cases z)) e
theorem LedIn.plain {K : PySem.W.Frag} {H : Hp} {L kk l : Addr} {cs : List Cell} {es : List Ent} (h : LedIn K H L kk l cs es) {b : Addr} (hb : b ∈ fpOf l cs) {o : Obj} {y : HO} (e : H b = some (.frz o y)) : False := by
  rcases List.mem_cons.mp hb with rfl | hb
  · rw [h.lst] at e; cases e
  · obtain ⟨c, hc, hb⟩ := List.mem_flatMap.mp hb
    obtain ⟨i, hi, ei⟩ := List.mem_iff_getElem.mp hc
    obtain ⟨c', e', h1, h2, ⟨dx, a1⟩, a2, a3⟩ := h.at (i := i) (by rw [← h.len]; exact hi)
    rw [List.getElem?_eq_getElem hi, ei] at h1
    cases h1
    simp only [Cell.fp, List.mem_cons, List.not_mem_nil, or_false] at hb
    rcases hb with rfl | rfl | rfl
    · rw [a1] at e; cases e
    · rw [a2] at e; cases e
    · rw [a3] at e; cases e
theorem S12.plain {K : PySem.W.Frag} {H : Hp} {p L kk r E S : Addr} {ps : Pairs} {es : List Ent} {F : List Addr} {n : Int} (x : S12 K H p L kk r E S ps es F n) {b : Addr} {o : Obj} {y : HO} (e : H b = some (.frz o y)) : b ∉ p :: E :: S :: F := fun hb => by
  rcases List.mem_cons.mp hb with rfl | hb
  · obtain ⟨xs, e1⟩ := x.pot.at; rw [e1] at e; cases e
  · rcases List.mem_cons.mp hb with rfl | hb
    · obtain ⟨_, e1, _⟩ := x.ent; rw [e1] at e; cases e
    · rcases List.mem_cons.mp hb with rfl | hb
      · obtain ⟨_, e1, _⟩ := x.siz; rw [e1] at e; cases e
      · obtain ⟨l, cs, hL, rfl⟩ := x.led
        exact hL.plain hb e
theorem isName_signs {z : Str} (h : isName z = true) : z.length ≤ 100 ∧ ∀ c ∈ z.cps.toList, c < 16 ^ 8 := by
  unfold isName at h
  obtain ⟨h1, h2⟩ := Bool.and_eq_true_iff.mp h
  have h1 := of_decide_eq_true h1
  refine ⟨by omega, fun c hc => ?_⟩
  have h3 := of_decide_eq_true (List.all_eq_true.mp h2 c hc)
  have key : (letters.cps.toList.all fun c => decide (c < 16 ^ 8)) = true := by decide +kernel
  exact of_decide_eq_true (List.all_eq_true.mp key c h3)
theorem Texty.signs {z : Str} (h : Texty z) : z.length ≤ 100 ∧ ∀ c ∈ z.cps.toList, c < 16 ^ 8 := by
  refine ⟨by have := h.1; omega, fun c hc => ?_⟩
  have := (h.2 c hc).2.1
  omega
end FS


set_option Elab.async false
set_option linter.all false
set_option maxRecDepth 100000
set_option maxHeartbeats 4000000
namespace KL
open PySem PySem.Spec PyProof.Rows L2 FS
def top (i : Nat) : Stmt := PySem.Challenge.pw_faultsheaves_k12_faults_and_members.main.body.getD i (.Pass ⟨0, 0, 0, 0⟩)
abbrev s__wall : Stmt := top 0
abbrev nm__wall : List Str := ["k"]
abbrev pr__wall : List Str := ["k"]
theorem sc__wall : FnScope nm__wall pr__wall (defScope s__wall) := ⟨rfl, rfl, rfl, by decide +kernel, rfl, by decide +kernel, by decide +kernel⟩
abbrev s_FaultError_init : Stmt := inClass (top 2) 0
abbrev nm_FaultError_init : List Str := ["self", "text"]
abbrev pr_FaultError_init : List Str := ["self", "text"]
theorem sc_FaultError_init : FnScope nm_FaultError_init pr_FaultError_init (defScope s_FaultError_init) := ⟨rfl, rfl, rfl, by decide +kernel, rfl, by decide +kernel, by decide +kernel⟩
abbrev s_is_whole : Stmt := top 12
abbrev nm_is_whole : List Str := ["thing"]
abbrev pr_is_whole : List Str := ["thing"]
theorem sc_is_whole : FnScope nm_is_whole pr_is_whole (defScope s_is_whole) := ⟨rfl, rfl, rfl, by decide +kernel, rfl, by decide +kernel, by decide +kernel⟩
abbrev s_is_name : Stmt := top 13
abbrev nm_is_name : List Str := ["thing", "sign"]
abbrev pr_is_name : List Str := ["thing"]
theorem sc_is_name : FnScope nm_is_name pr_is_name (defScope s_is_name) := ⟨rfl, rfl, rfl, by decide +kernel, rfl, by decide +kernel, by decide +kernel⟩
abbrev s_Kinds_init : Stmt := inClass (top 14) 0
abbrev nm_Kinds_init : List Str := ["self", "pairs", "name", "upper"]
abbrev pr_Kinds_init : List Str := ["self", "pairs"]
theorem sc_Kinds_init : FnScope nm_Kinds_init pr_Kinds_init (defScope s_Kinds_init) := ⟨rfl, rfl, rfl, by decide +kernel, rfl, by decide +kernel, by decide +kernel⟩
abbrev s_Kinds_names : Stmt := inClass (top 14) 1
abbrev nm_Kinds_names : List Str := ["self"]
abbrev pr_Kinds_names : List Str := ["self"]
theorem sc_Kinds_names : FnScope nm_Kinds_names pr_Kinds_names (defScope s_Kinds_names) := ⟨rfl, rfl, rfl, by decide +kernel, rfl, by decide +kernel, by decide +kernel⟩
abbrev s_Kinds_is_kind : Stmt := inClass (top 14) 2
abbrev nm_Kinds_is_kind : List Str := ["self", "thing"]
abbrev pr_Kinds_is_kind : List Str := ["self", "thing"]
theorem sc_Kinds_is_kind : FnScope nm_Kinds_is_kind pr_Kinds_is_kind (defScope s_Kinds_is_kind) := ⟨rfl, rfl, rfl, by decide +kernel, rfl, by decide +kernel, by decide +kernel⟩
abbrev s_Kinds_want_kind : Stmt := inClass (top 14) 3
abbrev nm_Kinds_want_kind : List Str := ["self", "thing"]
abbrev pr_Kinds_want_kind : List Str := ["self", "thing"]
theorem sc_Kinds_want_kind : FnScope nm_Kinds_want_kind pr_Kinds_want_kind (defScope s_Kinds_want_kind) := ⟨rfl, rfl, rfl, by decide +kernel, rfl, by decide +kernel, by decide +kernel⟩
abbrev s_Kinds_above : Stmt := inClass (top 14) 4
abbrev nm_Kinds_above : List Str := ["self", "name"]
abbrev pr_Kinds_above : List Str := ["self", "name"]
theorem sc_Kinds_above : FnScope nm_Kinds_above pr_Kinds_above (defScope s_Kinds_above) := ⟨rfl, rfl, rfl, by decide +kernel, rfl, by decide +kernel, by decide +kernel⟩
abbrev s_Kinds_stands_under : Stmt := inClass (top 14) 5
abbrev nm_Kinds_stands_under : List Str := ["self", "name", "other"]
abbrev pr_Kinds_stands_under : List Str := ["self", "name", "other"]
theorem sc_Kinds_stands_under : FnScope nm_Kinds_stands_under pr_Kinds_stands_under (defScope s_Kinds_stands_under) := ⟨rfl, rfl, rfl, by decide +kernel, rfl, by decide +kernel, by decide +kernel⟩
abbrev s_Entry_init : Stmt := inClass (top 16) 0
abbrev nm_Entry_init : List Str := ["self", "its_kind", "told", "inner"]
abbrev pr_Entry_init : List Str := ["self", "its_kind", "told", "inner"]
theorem sc_Entry_init : FnScope nm_Entry_init pr_Entry_init (defScope s_Entry_init) := ⟨rfl, rfl, rfl, by decide +kernel, rfl, by decide +kernel, by decide +kernel⟩
abbrev s_Entry_anew : Stmt := inClass (top 16) 1
abbrev nm_Entry_anew : List Str := ["self", "inner"]
abbrev pr_Entry_anew : List Str := ["self", "inner"]
theorem sc_Entry_anew : FnScope nm_Entry_anew pr_Entry_anew (defScope s_Entry_anew) := ⟨rfl, rfl, rfl, by decide +kernel, rfl, by decide +kernel, by decide +kernel⟩
abbrev s_Ledger_init : Stmt := inClass (top 17) 0
abbrev nm_Ledger_init : List Str := ["self", "kinds"]
abbrev pr_Ledger_init : List Str := ["self", "kinds"]
theorem sc_Ledger_init : FnScope nm_Ledger_init pr_Ledger_init (defScope s_Ledger_init) := ⟨rfl, rfl, rfl, by decide +kernel, rfl, by decide +kernel, by decide +kernel⟩
abbrev s_Ledger_kinds : Stmt := inClass (top 17) 1
abbrev nm_Ledger_kinds : List Str := ["self"]
abbrev pr_Ledger_kinds : List Str := ["self"]
theorem sc_Ledger_kinds : FnScope nm_Ledger_kinds pr_Ledger_kinds (defScope s_Ledger_kinds) := ⟨rfl, rfl, rfl, by decide +kernel, rfl, by decide +kernel, by decide +kernel⟩
abbrev s_Ledger_many : Stmt := inClass (top 17) 2
abbrev nm_Ledger_many : List Str := ["self"]
abbrev pr_Ledger_many : List Str := ["self"]
theorem sc_Ledger_many : FnScope nm_Ledger_many pr_Ledger_many (defScope s_Ledger_many) := ⟨rfl, rfl, rfl, by decide +kernel, rfl, by decide +kernel, by decide +kernel⟩
abbrev s_Ledger_is_fault : Stmt := inClass (top 17) 3
abbrev nm_Ledger_is_fault : List Str := ["self", "k"]
abbrev pr_Ledger_is_fault : List Str := ["self", "k"]
theorem sc_Ledger_is_fault : FnScope nm_Ledger_is_fault pr_Ledger_is_fault (defScope s_Ledger_is_fault) := ⟨rfl, rfl, rfl, by decide +kernel, rfl, by decide +kernel, by decide +kernel⟩
abbrev s_Ledger_entry : Stmt := inClass (top 17) 4
abbrev nm_Ledger_entry : List Str := ["self", "k"]
abbrev pr_Ledger_entry : List Str := ["self", "k"]
theorem sc_Ledger_entry : FnScope nm_Ledger_entry pr_Ledger_entry (defScope s_Ledger_entry) := ⟨rfl, rfl, rfl, by decide +kernel, rfl, by decide +kernel, by decide +kernel⟩
abbrev s_Ledger_want_all : Stmt := inClass (top 17) 5
abbrev nm_Ledger_want_all : List Str := ["self", "members", "k"]
abbrev pr_Ledger_want_all : List Str := ["self", "members"]
theorem sc_Ledger_want_all : FnScope nm_Ledger_want_all pr_Ledger_want_all (defScope s_Ledger_want_all) := ⟨rfl, rfl, rfl, by decide +kernel, rfl, by decide +kernel, by decide +kernel⟩
abbrev s_Ledger_come : Stmt := inClass (top 17) 6
abbrev nm_Ledger_come : List Str := ["self", "entry"]
abbrev pr_Ledger_come : List Str := ["self", "entry"]
theorem sc_Ledger_come : FnScope nm_Ledger_come pr_Ledger_come (defScope s_Ledger_come) := ⟨rfl, rfl, rfl, by decide +kernel, rfl, by decide +kernel, by decide +kernel⟩
abbrev s_Ledger_plain : Stmt := inClass (top 17) 7
abbrev nm_Ledger_plain : List Str := ["self", "kind", "text"]
abbrev pr_Ledger_plain : List Str := ["self", "kind", "text"]
theorem sc_Ledger_plain : FnScope nm_Ledger_plain pr_Ledger_plain (defScope s_Ledger_plain) := ⟨rfl, rfl, rfl, by decide +kernel, rfl, by decide +kernel, by decide +kernel⟩
abbrev s_Ledger_sheaf : Stmt := inClass (top 17) 8
abbrev nm_Ledger_sheaf : List Str := ["self", "text", "members"]
abbrev pr_Ledger_sheaf : List Str := ["self", "text", "members"]
theorem sc_Ledger_sheaf : FnScope nm_Ledger_sheaf pr_Ledger_sheaf (defScope s_Ledger_sheaf) := ⟨rfl, rfl, rfl, by decide +kernel, rfl, by decide +kernel, by decide +kernel⟩
abbrev s_Ledger_like : Stmt := inClass (top 17) 9
abbrev nm_Ledger_like : List Str := ["self", "k", "members"]
abbrev pr_Ledger_like : List Str := ["self", "k", "members"]
theorem sc_Ledger_like : FnScope nm_Ledger_like pr_Ledger_like (defScope s_Ledger_like) := ⟨rfl, rfl, rfl, by decide +kernel, rfl, by decide +kernel, by decide +kernel⟩
abbrev s_Ledger_kind : Stmt := inClass (top 17) 10
abbrev nm_Ledger_kind : List Str := ["self", "k"]
abbrev pr_Ledger_kind : List Str := ["self", "k"]
theorem sc_Ledger_kind : FnScope nm_Ledger_kind pr_Ledger_kind (defScope s_Ledger_kind) := ⟨rfl, rfl, rfl, by decide +kernel, rfl, by decide +kernel, by decide +kernel⟩
abbrev s_Ledger_text : Stmt := inClass (top 17) 11
abbrev nm_Ledger_text : List Str := ["self", "k"]
abbrev pr_Ledger_text : List Str := ["self", "k"]
theorem sc_Ledger_text : FnScope nm_Ledger_text pr_Ledger_text (defScope s_Ledger_text) := ⟨rfl, rfl, rfl, by decide +kernel, rfl, by decide +kernel, by decide +kernel⟩
abbrev s_Ledger_members : Stmt := inClass (top 17) 12
abbrev nm_Ledger_members : List Str := ["self", "k"]
abbrev pr_Ledger_members : List Str := ["self", "k"]
theorem sc_Ledger_members : FnScope nm_Ledger_members pr_Ledger_members (defScope s_Ledger_members) := ⟨rfl, rfl, rfl, by decide +kernel, rfl, by decide +kernel, by decide +kernel⟩
abbrev s_Ledger_notes : Stmt := inClass (top 17) 13
abbrev nm_Ledger_notes : List Str := ["self", "k"]
abbrev pr_Ledger_notes : List Str := ["self", "k"]
theorem sc_Ledger_notes : FnScope nm_Ledger_notes pr_Ledger_notes (defScope s_Ledger_notes) := ⟨rfl, rfl, rfl, by decide +kernel, rfl, by decide +kernel, by decide +kernel⟩
abbrev s_Ledger_cause : Stmt := inClass (top 17) 14
abbrev nm_Ledger_cause : List Str := ["self", "k"]
abbrev pr_Ledger_cause : List Str := ["self", "k"]
theorem sc_Ledger_cause : FnScope nm_Ledger_cause pr_Ledger_cause (defScope s_Ledger_cause) := ⟨rfl, rfl, rfl, by decide +kernel, rfl, by decide +kernel, by decide +kernel⟩
abbrev s_Ledger_at_work : Stmt := inClass (top 17) 15
abbrev nm_Ledger_at_work : List Str := ["self", "k"]
abbrev pr_Ledger_at_work : List Str := ["self", "k"]
theorem sc_Ledger_at_work : FnScope nm_Ledger_at_work pr_Ledger_at_work (defScope s_Ledger_at_work) := ⟨rfl, rfl, rfl, by decide +kernel, rfl, by decide +kernel, by decide +kernel⟩
abbrev s_Ledger_note : Stmt := inClass (top 17) 16
abbrev nm_Ledger_note : List Str := ["self", "k", "text"]
abbrev pr_Ledger_note : List Str := ["self", "k", "text"]
theorem sc_Ledger_note : FnScope nm_Ledger_note pr_Ledger_note (defScope s_Ledger_note) := ⟨rfl, rfl, rfl, by decide +kernel, rfl, by decide +kernel, by decide +kernel⟩
abbrev s_Ledger_blame : Stmt := inClass (top 17) 17
abbrev nm_Ledger_blame : List Str := ["self", "k", "j"]
abbrev pr_Ledger_blame : List Str := ["self", "k", "j"]
theorem sc_Ledger_blame : FnScope nm_Ledger_blame pr_Ledger_blame (defScope s_Ledger_blame) := ⟨rfl, rfl, rfl, by decide +kernel, rfl, by decide +kernel, by decide +kernel⟩
abbrev s_Ledger_rise : Stmt := inClass (top 17) 18
abbrev nm_Ledger_rise : List Str := ["self", "k", "j"]
abbrev pr_Ledger_rise : List Str := ["self", "k", "j"]
theorem sc_Ledger_rise : FnScope nm_Ledger_rise pr_Ledger_rise (defScope s_Ledger_rise) := ⟨rfl, rfl, rfl, by decide +kernel, rfl, by decide +kernel, by decide +kernel⟩
abbrev s_Ledger_leaves : Stmt := inClass (top 17) 19
abbrev nm_Ledger_leaves : List Str := ["self", "k"]
abbrev pr_Ledger_leaves : List Str := ["self", "k"]
theorem sc_Ledger_leaves : FnScope nm_Ledger_leaves pr_Ledger_leaves (defScope s_Ledger_leaves) := ⟨rfl, rfl, rfl, by decide +kernel, rfl, by decide +kernel, by decide +kernel⟩
abbrev s_Ledger_led : Stmt := inClass (top 17) 20
abbrev nm_Ledger_led : List Str := ["self", "k", "way"]
abbrev pr_Ledger_led : List Str := ["self", "k", "way"]
theorem sc_Ledger_led : FnScope nm_Ledger_led pr_Ledger_led (defScope s_Ledger_led) := ⟨rfl, rfl, rfl, by decide +kernel, rfl, by decide +kernel, by decide +kernel⟩
abbrev s_Ledger_twin : Stmt := inClass (top 17) 21
abbrev nm_Ledger_twin : List Str := ["self"]
abbrev pr_Ledger_twin : List Str := ["self"]
theorem sc_Ledger_twin : FnScope nm_Ledger_twin pr_Ledger_twin (defScope s_Ledger_twin) := ⟨rfl, rfl, rfl, by decide +kernel, rfl, by decide +kernel, by decide +kernel⟩
abbrev s_l_pot : Stmt := top 19
abbrev nm_l_pot : List Str := ["_law_script", "_law_k", "_law_cell", "_law_seed"]
abbrev pr_l_pot : List Str := ["_law_script", "_law_k"]
theorem sc_l_pot : FnScope nm_l_pot pr_l_pot (defScope s_l_pot) := ⟨rfl, rfl, rfl, by decide +kernel, rfl, by decide +kernel, by decide +kernel⟩
abbrev s_l_digit : Stmt := top 20
abbrev nm_l_digit : List Str := ["_law_pot_here", "_law_many", "_law_digit_here", "_law_mixed"]
abbrev pr_l_digit : List Str := ["_law_pot_here", "_law_many"]
theorem sc_l_digit : FnScope nm_l_digit pr_l_digit (defScope s_l_digit) := ⟨rfl, rfl, rfl, by decide +kernel, rfl, by decide +kernel, by decide +kernel⟩
abbrev s_l_text : Stmt := top 21
abbrev nm_l_text : List Str := ["_law_pot_here", "_law_signs", "_law_size", "_law_k"]
abbrev pr_l_text : List Str := ["_law_pot_here"]
theorem sc_l_text : FnScope nm_l_text pr_l_text (defScope s_l_text) := ⟨rfl, rfl, rfl, by decide +kernel, rfl, by decide +kernel, by decide +kernel⟩
abbrev s_l_name : Stmt := top 22
abbrev nm_l_name : List Str := ["_law_pot_here", "_law_k"]
abbrev pr_l_name : List Str := ["_law_pot_here"]
theorem sc_l_name : FnScope nm_l_name pr_l_name (defScope s_l_name) := ⟨rfl, rfl, rfl, by decide +kernel, rfl, by decide +kernel, by decide +kernel⟩
abbrev s_l_fresh : Stmt := top 23
abbrev nm_l_fresh : List Str := ["_law_pot_here", "_law_taken", "_law_name_here", "_law_letters", "_law_k"]
abbrev pr_l_fresh : List Str := ["_law_pot_here", "_law_taken"]
theorem sc_l_fresh : FnScope nm_l_fresh pr_l_fresh (defScope s_l_fresh) := ⟨rfl, rfl, rfl, by decide +kernel, rfl, by decide +kernel, by decide +kernel⟩
abbrev s_l_pairs : Stmt := top 24
abbrev nm_l_pairs : List Str := ["_law_pot_here", "_law_pairs_here", "_law_k", "_law_aboves", "_law_name_here", "_law_above"]
abbrev pr_l_pairs : List Str := ["_law_pot_here"]
theorem sc_l_pairs : FnScope nm_l_pairs pr_l_pairs (defScope s_l_pairs) := ⟨rfl, rfl, rfl, by decide +kernel, rfl, by decide +kernel, by decide +kernel⟩
abbrev s_l_kind : Stmt := top 25
abbrev nm_l_kind : List Str := ["_law_pot_here", "_law_pairs_here", "_law_name_here", "_law_above"]
abbrev pr_l_kind : List Str := ["_law_pot_here", "_law_pairs_here"]
theorem sc_l_kind : FnScope nm_l_kind pr_l_kind (defScope s_l_kind) := ⟨rfl, rfl, rfl, by decide +kernel, rfl, by decide +kernel, by decide +kernel⟩
abbrev s_l_told : Stmt := top 26
abbrev nm_l_told : List Str := ["_law_ledger", "_law_found", "_law_k", "_law_one"]
abbrev pr_l_told : List Str := ["_law_ledger"]
theorem sc_l_told : FnScope nm_l_told pr_l_told (defScope s_l_told) := ⟨rfl, rfl, rfl, by decide +kernel, rfl, by decide +kernel, by decide +kernel⟩
abbrev s_l_come : Stmt := top 27
abbrev nm_l_come : List Str := ["_law_pot_here", "_law_ledger", "_law_pairs_here", "_law_entries", "_law_sizes", "_law_k", "_law_text_here", "_law_members", "_law_j", "_law_many", "_law_deep", "_law_kind_here", "_law_number", "_law_handed"]
abbrev pr_l_come : List Str := ["_law_pot_here", "_law_ledger", "_law_pairs_here", "_law_entries", "_law_sizes"]
theorem sc_l_come : FnScope nm_l_come pr_l_come (defScope s_l_come) := ⟨rfl, rfl, rfl, by decide +kernel, rfl, by decide +kernel, by decide +kernel⟩
abbrev s_law : Stmt := top 28
abbrev nm_law : List Str := ["_law_script", "_law_pairs_here", "_law_ledger", "_law_entries", "_law_sizes", "_law_k", "_law_pot_here"]
abbrev pr_law : List Str := ["_law_script"]
theorem sc_law : FnScope nm_law pr_law (defScope s_law) := ⟨rfl, rfl, rfl, by decide +kernel, rfl, by decide +kernel, by decide +kernel⟩
structure Tx (K : PySem.W.Frag) (mg : Str → Option Value) : Prop where
  f__wall : Fx K mg "_wall" s__wall pr__wall
  m_FaultError_init : Mx K "FaultError" "__init__" "FaultError.__init__" s_FaultError_init pr_FaultError_init
  f_is_whole : Fx K mg "is_whole" s_is_whole pr_is_whole
  f_is_name : Fx K mg "is_name" s_is_name pr_is_name
  m_Kinds_init : Mx K "Kinds" "__init__" "Kinds.__init__" s_Kinds_init pr_Kinds_init
  m_Kinds_names : Mx K "Kinds" "names" "Kinds.names" s_Kinds_names pr_Kinds_names
  m_Kinds_is_kind : Mx K "Kinds" "is_kind" "Kinds.is_kind" s_Kinds_is_kind pr_Kinds_is_kind
  m_Kinds_want_kind : Mx K "Kinds" "want_kind" "Kinds.want_kind" s_Kinds_want_kind pr_Kinds_want_kind
  m_Kinds_above : Mx K "Kinds" "above" "Kinds.above" s_Kinds_above pr_Kinds_above
  m_Kinds_stands_under : Mx K "Kinds" "stands_under" "Kinds.stands_under" s_Kinds_stands_under pr_Kinds_stands_under
  m_Entry_init : Mx K "Entry" "__init__" "Entry.__init__" s_Entry_init pr_Entry_init
  m_Entry_anew : Mx K "Entry" "anew" "Entry.anew" s_Entry_anew pr_Entry_anew
  m_Ledger_init : Mx K "Ledger" "__init__" "Ledger.__init__" s_Ledger_init pr_Ledger_init
  m_Ledger_kinds : Mx K "Ledger" "kinds" "Ledger.kinds" s_Ledger_kinds pr_Ledger_kinds
  m_Ledger_many : Mx K "Ledger" "many" "Ledger.many" s_Ledger_many pr_Ledger_many
  m_Ledger_is_fault : Mx K "Ledger" "is_fault" "Ledger.is_fault" s_Ledger_is_fault pr_Ledger_is_fault
  m_Ledger_entry : Mx K "Ledger" "entry" "Ledger.entry" s_Ledger_entry pr_Ledger_entry
  m_Ledger_want_all : Mx K "Ledger" "want_all" "Ledger.want_all" s_Ledger_want_all pr_Ledger_want_all
  m_Ledger_come : Mx K "Ledger" "come" "Ledger.come" s_Ledger_come pr_Ledger_come
  m_Ledger_plain : Mx K "Ledger" "plain" "Ledger.plain" s_Ledger_plain pr_Ledger_plain
  m_Ledger_sheaf : Mx K "Ledger" "sheaf" "Ledger.sheaf" s_Ledger_sheaf pr_Ledger_sheaf
  m_Ledger_like : Mx K "Ledger" "like" "Ledger.like" s_Ledger_like pr_Ledger_like
  m_Ledger_kind : Mx K "Ledger" "kind" "Ledger.kind" s_Ledger_kind pr_Ledger_kind
  m_Ledger_text : Mx K "Ledger" "text" "Ledger.text" s_Ledger_text pr_Ledger_text
  m_Ledger_members : Mx K "Ledger" "members" "Ledger.members" s_Ledger_members pr_Ledger_members
  m_Ledger_notes : Mx K "Ledger" "notes" "Ledger.notes" s_Ledger_notes pr_Ledger_notes
  m_Ledger_cause : Mx K "Ledger" "cause" "Ledger.cause" s_Ledger_cause pr_Ledger_cause
  m_Ledger_at_work : Mx K "Ledger" "at_work" "Ledger.at_work" s_Ledger_at_work pr_Ledger_at_work
  m_Ledger_note : Mx K "Ledger" "note" "Ledger.note" s_Ledger_note pr_Ledger_note
  m_Ledger_blame : Mx K "Ledger" "blame" "Ledger.blame" s_Ledger_blame pr_Ledger_blame
  m_Ledger_rise : Mx K "Ledger" "rise" "Ledger.rise" s_Ledger_rise pr_Ledger_rise
  m_Ledger_leaves : Mx K "Ledger" "leaves" "Ledger.leaves" s_Ledger_leaves pr_Ledger_leaves
  m_Ledger_led : Mx K "Ledger" "led" "Ledger.led" s_Ledger_led pr_Ledger_led
  m_Ledger_twin : Mx K "Ledger" "twin" "Ledger.twin" s_Ledger_twin pr_Ledger_twin
  f_l_pot : Fx K mg "_law_pot" s_l_pot pr_l_pot
  f_l_digit : Fx K mg "_law_digit" s_l_digit pr_l_digit
  f_l_text : Fx K mg "_law_text" s_l_text pr_l_text
  f_l_name : Fx K mg "_law_name" s_l_name pr_l_name
  f_l_fresh : Fx K mg "_law_fresh" s_l_fresh pr_l_fresh
  f_l_pairs : Fx K mg "_law_pairs" s_l_pairs pr_l_pairs
  f_l_kind : Fx K mg "_law_kind" s_l_kind pr_l_kind
  f_l_told : Fx K mg "_law_told" s_l_told pr_l_told
  f_l_come : Fx K mg "_law_come" s_l_come pr_l_come
  f_law : Fx K mg "law" s_law pr_law
  n_ValueError : mg "ValueError" = none
  n_all : mg "all" = none
  n_bool : mg "bool" = none
  n_int : mg "int" = none
  n_isinstance : mg "isinstance" = none
  n_len : mg "len" = none
  n_list : mg "list" = none
  n_max : mg "max" = none
  n_min : mg "min" = none
  n_range : mg "range" = none
  n_repr : mg "repr" = none
  n_str : mg "str" = none
  n_sum : mg "sum" = none
  k_FaultError : mg "FaultError" = some (.ref (He.ga K "FaultError"))
  k_NoKind : mg "NoKind" = some (.ref (He.ga K "NoKind"))
  k_NoText : mg "NoText" = some (.ref (He.ga K "NoText"))
  k_NoFault : mg "NoFault" = some (.ref (He.ga K "NoFault"))
  k_Empty : mg "Empty" = some (.ref (He.ga K "Empty"))
  k_Kinds : mg "Kinds" = some (.ref (He.ga K "Kinds"))
  k_Entry : mg "Entry" = some (.ref (He.ga K "Entry"))
  k_Ledger : mg "Ledger" = some (.ref (He.ga K "Ledger"))
  vi : PySem.W.findCls K (.type "ValueError") (.type "type") "__init__" = some (.val (.builtin "ValueError.__init__"))
  cl_Kinds : Cls K (He.ga K "Kinds")
  mk_Kinds : Mk K (He.ga K "Kinds") (He.ma K (He.ga K "Kinds") "__init__")
  a_Kinds_uppers : NoAttr K (He.ga K "Kinds") "uppers"
  cl_Entry : Cls K (He.ga K "Entry")
  mk_Entry : Mk K (He.ga K "Entry") (He.ma K (He.ga K "Entry") "__init__")
  a_Entry_its_kind : NoAttr K (He.ga K "Entry") "its_kind"
  a_Entry_told : NoAttr K (He.ga K "Entry") "told"
  a_Entry_inner : NoAttr K (He.ga K "Entry") "inner"
  a_Entry_noted : NoAttr K (He.ga K "Entry") "noted"
  a_Entry_blamed : NoAttr K (He.ga K "Entry") "blamed"
  a_Entry_worked : NoAttr K (He.ga K "Entry") "worked"
  cl_Ledger : Cls K (He.ga K "Ledger")
  mk_Ledger : Mk K (He.ga K "Ledger") (He.ma K (He.ga K "Ledger") "__init__")
  a_Ledger_sorts : NoAttr K (He.ga K "Ledger") "sorts"
  a_Ledger_entries : NoAttr K (He.ga K "Ledger") "entries"
  x_FaultError : ExcX K "FaultError"
  x_NoKind : ExcX K "NoKind"
  x_NoText : ExcX K "NoText"
  x_NoFault : ExcX K "NoFault"
  x_Empty : ExcX K "Empty"
  c_LETTERS : ∃ t, mg "LETTERS" = some (.str "abcdefghijklmnopqrstuvwxyz" t)
  c_LONGEST : ∃ t, mg "LONGEST" = some (.int 8 t)
  c_ROOT : ∃ t, mg "ROOT" = some (.str "fault" t)
  c_SHEAF : ∃ t, mg "SHEAF" = some (.str "sheaf" t)
local macro_rules | `(tactic| walk_at "ne") => `(tactic| first
  | assumption
  | (refine Ne.symm ?_; assumption))
local macro_rules | `(tactic| walk_at "hp") => `(tactic| first
  | assumption
  | exact upd_same
  | (refine upd_old (by assumption) ?_; walk_at "hp")
  | (refine upd_far ?_ ?_; (focus walk_at "ne"); walk_at "hp"))
local macro_rules | `(tactic| walk_at "st") => `(tactic| first
  | with_reducible refine rd_seq ?_
  | with_reducible refine rd_asg ?_
  | with_reducible refine rd_ret ?_
  | with_reducible refine rd_ifs ?_
  | with_reducible refine rd_op ?_
  | with_reducible refine rd_c ?_
  | ((with_reducible refine rd_var (v := ?v) ?h ?_); (case h => rfl))
  | with_reducible refine rd_cons ?_
  | with_reducible refine rd_nil ?_
  | with_reducible refine rd_call ?_
  | with_reducible refine rd_cb ?_
  | with_reducible refine rd_name ?_
  | with_reducible refine rd_sub ?_
  | with_reducible refine rd_test ?_
  | with_reducible refine rd_tup ?_
  | with_reducible refine rd_lst ?_
  | with_reducible refine rd_next ?_
  | with_reducible refine rd_drop ?_
  | with_reducible refine rd_i0 ?_
  | with_reducible refine rd_blP ?_
  | with_reducible refine rd_and ?_
  | with_reducible refine rd_or ?_
  | with_reducible refine rd_not ?_
  | with_reducible refine rd_andV ?_
  | with_reducible refine rd_orV ?_
  | with_reducible refine rd_notV ?_
  | with_reducible refine rd_if ?_
  | with_reducible refine rd_un ?_
  | with_reducible refine rd_chain ?_
  | with_reducible refine rd_b ?_
  | with_reducible refine rd_retN ?_
  | ((with_reducible refine rd_eq ?_ ?_); focus rfl)
  | ((with_reducible refine rd_ne ?_ ?_); focus rfl)
  | with_reducible refine rd_ixL (by walk_at "hp") (by with_unfolding_all rfl) ?_
  | with_reducible refine rd_ixT (by walk_at "hp") (by with_unfolding_all rfl) ?_
  | with_reducible refine rd_setL (by walk_at "hp") (by with_unfolding_all rfl) ?_
  | ((with_reducible refine rd_i ?_ ?_); focus walk_at "cnd")
  | with_reducible refine rd_size (by simp) ?_
  | with_reducible refine rd_intB ?_
  | with_reducible refine rd_m1 ?_
  | with_reducible refine rd_str ?_
  | with_reducible refine rd_lenL (by assumption) ?_
  | with_reducible refine rd_lc ?_
  | with_reducible refine rd_for ?_
  | with_reducible refine rd_rng1 ?_
  | with_reducible refine rd_rng2 ?_
  | with_reducible refine rd_ilist ?_
  | with_reducible refine rd_yes ?_
  | with_reducible refine rd_then ?_
  | with_reducible refine rd_else ?_
  | with_reducible refine rd_thenN ?_
  | with_reducible refine rd_elseN ?_
  | with_reducible refine rd_callS ?_
  | with_reducible refine rd_callS1 ?_
  | with_reducible refine rd_fld ?_
  | with_reducible refine rd_sfld ?_
  | with_reducible refine rd_meth ?_
  | with_reducible refine rd_make ?_
  | with_reducible refine rd_din ?_
  | with_reducible refine rd_dnotin ?_
  | with_reducible refine rd_dget ?_
  | with_reducible refine rd_dput ?_
  | with_reducible refine rd_pcons ?_
  | with_reducible refine rd_pnil ?_
  | with_reducible refine rd_disp ?_
  | with_reducible refine rd_istr ?_
  | with_reducible refine rd_istrJ ?_
  | with_reducible refine rd_sign ?_
  | with_reducible refine rd_isN ?_
  | with_reducible refine rd_notN ?_
  | with_reducible refine rd_gcons ?_
  | with_reducible refine rd_gnil ?_
  | with_reducible refine rd_bm ?_
  | with_reducible refine rd_bm0 ?_
  | ((with_reducible refine rd_gtup (xs := ?xs) ?h ?l ?_); (case h => exact .inl (.inl (by walk_at "hp"))); (case l => rfl))
  | ((with_reducible refine rd_cat (xs := ?xs) (zs := ?zs) ?h1 ?h2 ?z ?_); (case h1 => walk_at "hp"); (case h2 => walk_at "hp"); (case z => simp)))
local macro_rules | `(tactic| walk_at "cnd") => `(tactic| first
  | assumption
  | (show (0 : Int) < _; first | decide | omega)
  | (show (0 : Int) < _ ∧ _ < (1073741824 : Int); exact ⟨by omega, by omega⟩)
  | (refine Or.inr ⟨?_, ?_⟩ <;> first | decide | omega)
  | (refine Or.inl ⟨?_, ?_⟩ <;> first | decide | omega)
  | (refine And.intro ?_ (And.intro ?_ ?_) <;> first | decide | omega))
local macro_rules | `(tactic| walk_at "go") => `(tactic| repeat (first | walk_at "st" | dsimp only [Bool.not_true, Bool.not_false]))
local macro_rules | `(tactic| walk_at "begin") => `(tactic| ((try dsimp only [cxOf, Cx.nox, Cx.wish]); walk_at "go"))
local macro_rules | `(tactic| walk_at "same") => `(tactic| first
  | assumption
  | exact Same.refl _
  | (refine Same.trans ?_ (same_new (by assumption)); walk_at "same"))
local macro_rules | `(tactic| walk_at "nk") => `(tactic| (simp only [List.map_cons, List.map_nil]; decide +kernel))
local macro_rules | `(tactic| walk_at "keep") => `(tactic| first
  | assumption
  | exact Keep.refl _ _
  | (refine Keep.trans ?_ Keep.upd; walk_at "keep")
  | (refine Keep.trans ?_ (Keep.same (same_new (by assumption))); walk_at "keep"))
section
variable {P : Program} {w : World} {K : PySem.W.Frag} {mg : Str → Option Value} {base : Heap}
theorem ok_l_digit (T : Tx K mg) : FO P w K mg base 1 ("_law_digit", none) pr_l_digit spDigit := by
  refine ok0 T.f_l_digit.fn sc_l_digit (fun vs H Q E h => ?_) (fun cdv A outer s H vs Q E hr h => ?_)
  · obtain ⟨p, m, n, rfl, _⟩ := h
    rfl
  · obtain ⟨p, m, n, rfl, hm0, hm1, hn, ⟨a, b, c, e, ha, hb0, hb1, hc0, hc1⟩, k⟩ := h
    refine ⟨_, (pss_cons (ps_if (pt_cmpR op_gt (pe_ix (u_ix (K := K) rfl) (pv 0) pe_int (fun _ _ => rfl)) pe_int (nomark _))
 (pss_cons (ps_set (i := 2) sc_l_digit.nd rfl (by first | exact Or.inl rfl | exact Or.inr rfl) (pe_op op_mod (pe_ix (u_ix (K := K) rfl) (pv 0) pe_int (fun _ _ => rfl)) (pv 1)))
 (pss_cons (ps_asg (pe_op op_fdiv (pe_ix (u_ix (K := K) rfl) (pv 0) pe_int (fun _ _ => rfl)) (pv 1)) (pg_sub (pv 0) pe_int set_list))
 (pss_one (ps_ret (pv 2)))))
 pss_nil)
 (pss_cons (ps_asg (pe_op op_add (pe_ix (u_ix (K := K) rfl) (pv 0) pe_int (fun _ _ => rfl)) pe_int) (pg_sub (pv 0) pe_int set_list))
 (pss_cons (ps_asg (pe_op op_mod (pe_op op_add (pe_op op_add (pe_op op_mul (pe_ix (u_ix (K := K) rfl) (pv 0) pe_int (fun _ _ => rfl)) pe_int) (pe_op op_mul (pe_op op_mul (pe_ix (u_ix (K := K) rfl) (pv 0) pe_int (fun _ _ => rfl)) (pe_ix (u_ix (K := K) rfl) (pv 0) pe_int (fun _ _ => rfl))) pe_int)) pe_int) pe_int) (pg_sub (pv 0) pe_int set_list))
 (pss_cons (ps_set (i := 3) sc_l_digit.nd rfl (by first | exact Or.inl rfl | exact Or.inr rfl) (pe_op op_mod (pe_op op_mul (pe_ix (u_ix (K := K) rfl) (pv 0) pe_int (fun _ _ => rfl)) (pe_ix (u_ix (K := K) rfl) (pv 0) pe_int (fun _ _ => rfl))) pe_int))
 (pss_one (ps_ret (pe_op op_mod (pe_op op_fdiv (pe_op op_mod (pe_op op_mul (pv 3) (pe_op op_add (pe_op op_mod (pv 3) pe_int) pe_int)) pe_int) pe_int) (pv 1)))))))), ?_⟩
    walk_at "begin"
    refine ite2 (fun h0 => ?_) (fun h0 => ?_)
    · walk_at "go"
      refine k _ _ .upd ⟨_, _, _, upd_same, ?_, hb0, hb1, hc0, by omega⟩ ?_ ?_
      · exact Int.ediv_nonneg ha (by omega)
      · exact Int.emod_nonneg _ (by omega)
      · exact Int.emod_lt_of_pos _ hm0
    · walk_at "go"
      rw [upd_upd]
      refine k _ _ .upd ⟨_, _, _, upd_same, ha, Int.emod_nonneg _ (by decide), Int.emod_lt_of_pos _ (by decide), by omega, by omega⟩ (Int.emod_nonneg _ (by omega)) (Int.emod_lt_of_pos _ hm0)
theorem ok_l_pot (T : Tx K mg) : FO P w K mg base 1 ("_law_pot", none) pr_l_pot (spPot K) := by
  refine ok0 T.f_l_pot.fn sc_l_pot (fun vs H Q E h => ?_) (fun cdv A outer s H vs Q E hr h => ?_)
  · obtain ⟨p, m, n, rfl, _⟩ := h
    rfl
  · obtain ⟨a, ns, k, rfl, hl, hz, hk0, hk1, q⟩ := h
    refine ⟨_, (pss_cons (ps_set (i := 2) sc_l_pot.nd rfl (by first | exact Or.inl rfl | exact Or.inr rfl) pe_int)
 (pss_cons (ps_if (pt_cmpR op_lt (pv 1) (pe_callB (u_len (K := K) rfl) (by rfl) T.n_len (by decide +kernel) (pa_cons (pv 0) pa_nil)) (nomark _))
 (pss_one (ps_set (i := 2) sc_l_pot.nd rfl (by first | exact Or.inl rfl | exact Or.inr rfl) (pe_ix (u_ix (K := K) rfl) (pv 0) (pv 1) (fun _ _ => rfl))))
 pss_nil)
 (pss_cons (ps_set (i := 3) sc_l_pot.nd rfl (by first | exact Or.inl rfl | exact Or.inr rfl) (pe_op op_mod (pe_op op_add (pe_op op_add (pe_op op_mul (pe_op op_mod (pv 2) pe_int) pe_int) (pe_op op_mul (pe_op op_mul pe_int (pv 1)) (pv 1))) pe_int) pe_int))
 (pss_one (ps_ret (pe_lst (pa_cons (pe_callB (u_max rfl) (by rfl) T.n_max (by decide +kernel) (pa_cons pe_int (pa_cons (pe_op op_sub (pv 2) (pe_op op_pow pe_int pe_int)) pa_nil))) (pa_cons (pv 3) (pa_cons pe_int pa_nil))))))))), ?_⟩
    walk_at "begin"
    refine ite2 (fun h0 => ?_) (fun h0 => ?_)
    · have h1 : k < (ns.length : Int) := by simpa using h0
      obtain ⟨c, _, _, ec⟩ := atI_map (f := V.int) hk0 h1
      walk_at "go"
      refine rd_ixLK hl ec ?_
      walk_at "go"
      refine rd_max fun m _ m0 _ => ?_
      walk_at "go"
      intro p hp
      exact q _ p (same_new hp) hp ⟨_, _, _, upd_same, m0, Int.emod_nonneg _ (by decide), Int.emod_lt_of_pos _ (by decide), by decide, by decide⟩
    · walk_at "go"
      refine rd_max fun m _ m0 _ => ?_
      walk_at "go"
      intro p hp
      exact q _ p (same_new hp) hp ⟨_, _, _, upd_same, m0, Int.emod_nonneg _ (by decide), Int.emod_lt_of_pos _ (by decide), by decide, by decide⟩
theorem ok_l_text (T : Tx K mg) : FO P w K mg base 2 ("_law_text", none) pr_l_text spText := by
  refine ok0 T.f_l_text.fn sc_l_text (fun vs H Q E h => ?_) (fun cdv A outer s H vs Q E hr h => ?_)
  · obtain ⟨p, n, rfl, _⟩ := h
    rfl
  · obtain ⟨p, n, rfl, hn, hp, k⟩ := h
    refine ⟨_, (pss_cons (ps_set (i := 1) sc_l_text.nd rfl (by first | exact Or.inl rfl | exact Or.inr rfl) pe_str)
 (pss_cons (ps_set (i := 2) sc_l_text.nd rfl (by first | exact Or.inl rfl | exact Or.inr rfl) (pe_ix (u_ix (K := K) rfl) (pe_lst (pa_cons (pe_call (ok_l_digit T) (hr.mono (by decide)) (by rfl) T.f_l_digit.mg T.f_l_digit.fn.kp T.f_l_digit.bi .nil pass0 (pa_cons (pv 0) (pa_cons pe_int pa_nil))) (pa_cons (pe_call (ok_l_digit T) (hr.mono (by decide)) (by rfl) T.f_l_digit.mg T.f_l_digit.fn.kp T.f_l_digit.bi .nil pass0 (pa_cons (pv 0) (pa_cons pe_int pa_nil))) pa_nil))) (pe_callTy u_int (by rfl) T.n_int (by decide +kernel) (pa_cons (pe_cmpR op_eq (pe_call (ok_l_digit T) (hr.mono (by decide)) (by rfl) T.f_l_digit.mg T.f_l_digit.fn.kp T.f_l_digit.bi .nil pass0 (pa_cons (pv 0) (pa_cons pe_int pa_nil))) pe_int (nomark _)) pa_nil)) (fun _ _ => rfl)))
 (pss_one (ps_ret (u_join (K := K) rfl pe_str (pe_lc (own := [("_law_k", 3)]) (by rfl) sc_l_text.nd (pi_range1 (by rfl) T.n_range (pa_cons (pv 2) pa_nil)) (blkOk_by (N := nm_l_text) (sc := defScope s_l_text) (own := [("_law_k", 3)]) (by decide +kernel)) (fun _ _ _ _ _ => (pg_name (i := 3) sc_l_text.nd rfl (by first | exact Or.inl rfl | exact Or.inr rfl))) (fun _ _ _ _ _ => pts_nil) (fun _ _ _ _ _ => (pe_ix (u_ix (K := K) rfl) (pv 1) (pe_call (ok_l_digit T) (hr.mono (by decide)) (by rfl) T.f_l_digit.mg T.f_l_digit.fn.kp T.f_l_digit.bi .nil pass0 (pa_cons (pv 0) (pa_cons pe_int pa_nil))) (fun _ _ => rfl))))))))), ?_⟩
    walk_at "begin"
    refine rd_digit (by decide) (by decide) (by omega) hp fun H1 d1 k1 p1 d10 d11 => ?_
    walk_at "go"
    refine rd_digit (by decide) (by decide) (by omega) p1 fun H2 d2 k2 p2 d20 d21 => ?_
    walk_at "go"
    intro l hl
    walk_at "go"
    have hlp := p2.ne hl
    refine rd_digit (by decide) (by decide) (by omega) (p2.mut hlp) fun H3 d3 k3 p3 d30 d31 => ?_
    walk_at "go"
    have el : H3 l = some (.lst [.int d1, .int d2]) := k3 _ _ hlp upd_same
    refine rd_pick2 el fun v hv => ?_
    obtain ⟨j, rfl, j0, j1⟩ : ∃ j : Int, v = .int j ∧ 0 ≤ j ∧ j ≤ 40 := by
      rcases hv with ⟨_, rfl⟩ | ⟨_, rfl⟩
      · exact ⟨_, rfl, d10, by omega⟩
      · exact ⟨_, rfl, d20, by omega⟩
    walk_at "go"
    refine rd_rngJ (by omega) (by omega) ?_
    have K3 : Keep p H H3 := k1.trans (k2.trans ((Keep.same (same_new hl)).trans k3))
    refine lc_R (fun D i G => ∃ cs : List Nat, cs.length = i ∧ (∀ c ∈ cs, Sign c) ∧ G D = some (.lst (cs.map oneSign)) ∧ PotAt (n + 3 + i) G p ∧ Keep p H G) (fun D hD => ?_) ?_ ?_
    · have hDp := p3.ne hD
      exact ⟨[], rfl, by simp, upd_same, (p3.mut hDp).mono (by omega), K3.mut (K3.back hDp hD)⟩
    · rintro D i G hD hi ⟨cs, hc, hs, eD, hp', hK⟩
      have hDp := p3.ne hD
      walk_at "go"
      refine ⟨rfl, ?_⟩
      walk_at "go"
      refine rd_digit (by decide) (by decide) (by omega) hp' fun H4 d4 k4 p4 d40 d41 => ?_
      obtain ⟨c, ec, sc⟩ := signs94_at d40 d41
      refine rd_ixS (by decide +kernel) ec ?_
      refine ⟨_, k4 _ _ hDp eD, ?_, ?_⟩
      · rw [List.length_map]
        exact Nat.lt_of_lt_of_le (show cs.length < 1000 by omega) (by decide)
      · refine ⟨cs ++ [c], by simp [hc], ?_, ?_, (p4.mut hDp).mono (by omega), (hK.trans k4).mut (K3.back hDp hD)⟩
        · intro x hx
          rcases List.mem_append.mp hx with h | h
          · exact hs x h
          · rw [List.mem_singleton.mp h]
            exact sc
        · rw [upd_same, List.map_append]
          rfl
    · rintro D G hD ⟨cs, hc, hs, eD, hp', hK⟩
      refine rd_joinSigns eD (by omega) ?_
      exact k _ _ hK (hp'.mono (by omega)) ⟨by rw [lenSg]; omega, by simpa using hs⟩

theorem ok_FaultError_init (T : Tx K mg) : FO P w K mg base 1 ("FaultError", some "__init__") pr_FaultError_init (spFInit K) := by
  refine ok0 T.m_FaultError_init.fn sc_FaultError_init (fun vs H Q E h => ?_) (fun cdv A outer s H vs Q E hr h => ?_)
  · obtain ⟨a, C, v, rfl, _⟩ := h
    rfl
  · obtain ⟨a, C, v, rfl, hC, ha, q⟩ := h
    refine ⟨_, (pss_one (ps_expr (u_veinit (K := K) rfl (by rfl) T.n_ValueError T.vi (pa_cons (pv 0) (pa_cons (pv 1) pa_nil))))), ?_⟩
    walk_at "begin"
    refine rd_vei ?_
    walk_at "go"
    exact ⟨a, C, _, rfl, by simp, hC, ha, q⟩
theorem ok_is_name (T : Tx K mg) : FO P w K mg base 1 ("is_name", none) pr_is_name (spName K) := by
  refine ok0 T.f_is_name.fn sc_is_name (fun vs H Q E h => ?_) (fun cdv A outer s H vs Q E hr h => ?_)
  · obtain ⟨x, o, rfl, _⟩ := h
    rfl
  · obtain ⟨x, o, rfl, hx, k⟩ := h
    refine ⟨_, (pss_cons (ps_if (PW.pt (pw_or (pt_not (pt_val (pe_callB (u_isi (K := K) rfl) (by rfl) T.n_isinstance (by decide +kernel) (pa_cons (pv 0) (pa_cons (pe_bltn (v := .ty "str") (by rfl) T.n_str (by decide +kernel) rfl) pa_nil))))) (pw_or (pt_cmpR op_lt (pe_callB (u_len (K := K) rfl) (by rfl) T.n_len (by decide +kernel) (pa_cons (pv 0) pa_nil)) pe_int (nomark _)) (pw_or1 (pt_cmpR op_gt (pe_callB (u_len (K := K) rfl) (by rfl) T.n_len (by decide +kernel) (pa_cons (pv 0) pa_nil)) (u_gint (by rfl) T.c_LONGEST) (nomark _))))))
 (pss_one (ps_ret pe_bl))
 pss_nil)
 (pss_one (ps_ret (pe_callB (u_all (K := K) rfl rfl) (by rfl) T.n_all (by decide +kernel) (pa_cons (pe_lc (own := [("sign", 1)]) (by rfl) sc_is_name.nd (pi_str (pv 0)) (blkOk_by (N := nm_is_name) (sc := defScope s_is_name) (own := [("sign", 1)]) (by decide +kernel)) (fun _ _ _ _ _ => (pg_name (i := 1) sc_is_name.nd rfl (by first | exact Or.inl rfl | exact Or.inr rfl))) (fun _ _ _ _ _ => pts_nil) (fun _ _ _ _ _ => (pe_cmpR op_inS (pv 1) (u_gstr (by rfl) T.c_LETTERS) (by with_unfolding_all rfl)))) pa_nil))))), ?_⟩
    walk_at "begin"
    rcases hx with ⟨z, rfl, rfl, hz⟩ | ⟨t, ty, rfl⟩
    · have hz2 : z.length ≤ sizeLine := Nat.le_trans hz (by decide)
      have hno : ¬ (1 ≤ z.length ∧ z.length ≤ 8) → isNameO (some z) = false := fun h => by
        show isName z = false
        unfold isName
        rw [decide_eq_false h, Bool.false_and]
      refine rd_isi (.base (.str z)) (.ty _) kit_ss ?_
      walk_at "go"
      refine rd_lenS hz2 ?_
      walk_at "go"
      refine ite2 (fun h1 => ?_) (fun h1 => ?_)
      · have h2 := of_decide_eq_true h1
        walk_at "go"
        have e := k H (Same.refl _)
        rw [hno (by omega)] at e
        exact e
      walk_at "go"
      refine rd_lenS hz2 ?_
      walk_at "go"
      refine ite2 (fun h3 => ?_) (fun h3 => ?_)
      · have h2 := of_decide_eq_true h3
        walk_at "go"
        have e := k H (Same.refl _)
        rw [hno (by omega)] at e
        exact e
      walk_at "go"
      have h1' : 1 ≤ z.length ∧ z.length ≤ 8 := by
        have a1 := of_decide_eq_false (Bool.eq_false_iff.mpr h1)
        have a3 := of_decide_eq_false (Bool.eq_false_iff.mpr h3)
        omega
      refine lc_S (fun D i G => G D = some (.lst (((z.cps.toList.take i).map fun c => decide (c ∈ letters.cps.toList)).map V.bl)) ∧ Same H G) (fun D hD => ⟨upd_same, same_new hD⟩) ?_ ?_
      · rintro D i c G hD hi ⟨eD, sD⟩
        walk_at "go"
        refine ⟨rfl, ?_⟩
        walk_at "go"
        have hi' : z.cps.toList[i]? = some c := by
          rw [Array.getElem?_toList]
          exact hi
        have li : i < z.cps.toList.length := (List.getElem?_eq_some_iff.mp hi').1
        refine ⟨_, eD, ?_, ?_, same_mut sD hD⟩
        · rw [List.length_map, List.length_map, List.length_take]
          have : z.cps.toList.length = z.length := rfl
          exact Nat.lt_of_lt_of_le (show min i z.cps.toList.length < 100 by omega) (by decide)
        · rw [upd_same, List.take_succ, hi', List.map_append, List.map_append]
          rfl
      · rintro D G hD ⟨eD, sD⟩
        walk_at "go"
        refine rd_all eD ?_
        have e := k G sD
        have e2 : isNameO (some z) = (((z.cps.toList.take z.cps.size).map fun c => decide (c ∈ letters.cps.toList)).all id) := by
          show isName z = _
          unfold isName
          rw [decide_eq_true h1', Bool.true_and, List.take_of_length_le (show z.cps.toList.length ≤ z.cps.size from Nat.le_refl _), List.all_map]
          rfl
        rw [e2] at e
        exact e
    · refine rd_isi ty.ty (.ty _) ty.kit ?_
      walk_at "go"
      exact k H (Same.refl _)

end


set_option Elab.async false
set_option linter.all false
set_option maxRecDepth 100000
set_option maxHeartbeats 4000000
section
variable {P : Program} {w : World} {K : PySem.W.Frag} {mg : Str → Option Value} {base : Heap}
theorem ok_Kinds_init (T : Tx K mg) : FnOk P w K mg base (L2.CX P w) 3 (He.fAd K ("Kinds", some "__init__")) (fdOf K ("Kinds", some "__init__")) pr_Kinds_init (spKinds K) := by
  refine FunD.ok T.m_Kinds_init.fn sc_Kinds_init (fun vs H Q E h => ?_) (fun cdv A outer s H vs Q E hr h => ?_)
  · obtain ⟨k, l, dx, qs, rfl, _⟩ := h
    rfl
  · obtain ⟨k, l, dx, qs, rfl, hk, hl, nkl, q⟩ := h
    refine ⟨_, (pss_cons (u_sfld (K := K) rfl (pv 0) (pe_disp (pps_cons (u_gstr (by rfl) T.c_ROOT) pe_non (pps_cons (u_gstr (by rfl) T.c_SHEAF) (u_gstr (by rfl) T.c_ROOT) pps_nil)) (by rfl) (by rfl) (fun z => by cases z) (by decide)) rfl)
 (pss_one (ps_for (passes_of rfl) (by rfl) (u_ilist (K := K) rfl (pv 1)) (u_gtup (K := K) (n := 2) rfl (by rfl) (pgs_cons (pg_name (i := 2) sc_Kinds_init.nd rfl (by first | exact Or.inl rfl | exact Or.inr rfl)) (pgs_cons (pg_name (i := 3) sc_Kinds_init.nd rfl (by first | exact Or.inl rfl | exact Or.inr rfl)) pgs_nil)))
 (pss_cons (ps_if (PW.pt (pw_or (pt_not (pt_val (pe_call (ok_is_name T) (hr.mono (by decide)) (by rfl) T.f_is_name.mg T.f_is_name.fn.kp T.f_is_name.bi .nil pass0 (pa_cons (pv 2) pa_nil)))) (pw_or1 (pt_cmp (pc_din (hu_of hr) (pv 2) (u_fld (K := K) rfl (pv 0) rfl))))))
 (pss_one (ps_raise rfl (takes_of rfl rfl rfl rfl) (pmk_fault (T.x_NoKind).o (T.x_NoKind).i (T.x_NoKind).ty (ok_FaultError_init T) (hr.mono (by decide)) T.m_FaultError_init.bi (by rfl) T.k_NoKind pe_str)))
 pss_nil)
 (pss_cons (ps_if (PW.pt (pw_or (pt_not (pt_val (pe_call (ok_is_name T) (hr.mono (by decide)) (by rfl) T.f_is_name.mg T.f_is_name.fn.kp T.f_is_name.bi .nil pass0 (pa_cons (pv 3) pa_nil)))) (pw_or (pt_cmpR op_eq (pv 3) (u_gstr (by rfl) T.c_SHEAF) (nomark _)) (pw_or1 (pt_cmp (pc_dnotin (hu_of hr) (pv 3) (u_fld (K := K) rfl (pv 0) rfl)))))))
 (pss_one (ps_raise rfl (takes_of rfl rfl rfl rfl) (pmk_fault (T.x_NoKind).o (T.x_NoKind).i (T.x_NoKind).ty (ok_FaultError_init T) (hr.mono (by decide)) T.m_FaultError_init.bi (by rfl) T.k_NoKind pe_str)))
 pss_nil)
 (pss_one (ps_dput (hu_of hr) (u_fld (K := K) rfl (pv 0) rfl) (pv 2) (pv 3) rfl))))))), ?_⟩
    obtain ⟨as, hla, hll, hit⟩ := hl
    walk_at "begin"
    intro p hp
    walk_at "go"
    refine ⟨upd_same, [(.inr "fault", .non), (.inr "sheaf", .str "fault")], rfl, by decide, ?_⟩
    rw [upd_upd, merge0]
    walk_at "go"
    have npk : k ≠ p := ne_of_none hk hp
    refine rd_sfldJ (upd_old hp hk) T.cl_Kinds T.a_Kinds_uppers (by decide) (fs' := ksKinds p) rfl ?_
    walk_at "go"
    have nlk : l ≠ k := ne_of hla hk (by intro z; cases z)
    refine rd_ilistJ (xs := as.map V.ref) (SqL.of (upd_far nlk (upd_old hp hla))) ?_
    refine for_L (xs := as.map V.ref) (fun i σ G => ∃ (ps : Pairs) (v2 v3 : Option V), kfold [] (qs.take i) = some ps ∧ σ = [some (.ref k), some (.ref l), v2, v3] ∧ G k = some (.ins (He.ga K "Kinds") dx (ksKinds p)) ∧ G p = some (.dK (uppers ps)) ∧ Keep k H G)
      ⟨[], none, none, rfl, rfl, upd_same, upd_far npk.symm upd_same, (Keep.same (same_new hp)).trans .upd⟩ ?_ ?_ ?_
    · rintro i σ G _ ⟨ps, v2, v3, hps, rfl, gk, gp, kp⟩
      exact SqL.of (kp _ _ nlk hla)
    · rintro i x σ G hi ⟨ps, v2, v3, hps, rfl, gk, gp, kp⟩
      have li : i < qs.length := by
        have := (List.getElem?_eq_some_iff.mp hi).1
        rw [List.length_map] at this
        omega
      obtain ⟨a, n, u, ha, hta, tn, tu⟩ := hit i qs[i] (List.getElem?_eq_getElem li)
      have ex : x = .ref a := by
        rw [List.getElem?_map, ha] at hi
        exact (Option.some.inj hi).symm
      subst ex
      have hq : qs.take (i + 1) = qs.take i ++ [qs[i]] := by
        rw [List.take_succ, List.getElem?_eq_getElem li]
        rfl
      have nak : a ≠ k := ne_of hta hk (by intro z; cases z)
      have gt : G a = some (.tup [n, u]) := kp _ _ nak hta
      have lps : ps.length ≤ 100 := by
        have := kfold_len _ _ _ hps
        rw [List.length_take] at this
        simp at this
        omega
      -- what is refused
      have bad : kstep ps qs[i] = none → ∀ G', Keep k H G' → E (.ref (He.ga K "NoKind")) none G' := by
        intro hb G' kG
        have e0 : kfold [] qs = none := by
          have e1 : kfold [] (qs.take (i + 1)) = none := by
            rw [hq, kfold_snoc, hps]
            exact hb
          rw [← List.take_append_drop (i + 1) qs]
          exact kfold_stop _ _ _ e1
        rw [e0] at q
        exact q G' kG
      generalize hqi : qs[i] = qi at tn tu bad hq
      obtain ⟨on, ou⟩ := qi
      walk_at "go"
      refine ⟨n, on, rfl, tn.keep kp hk, fun G1 s1 => ?_⟩
      walk_at "go"
      have kp1 : Keep k H G1 := kp.trans (.same s1)
      have kn : on = none ∨ (∃ z, on = some z ∧ isName z = false) → kstep ps (on, ou) = none := by
        rintro (rfl | ⟨z, rfl, e⟩)
        · rfl
        · cases ou with
          | none => rfl
          | some y =>
            show (if isName z = true ∧ _ then _ else _) = none
            rw [if_neg fun c => by rw [e] at c; exact Bool.false_ne_true c.1]
      rcases tn with ⟨z, rfl, rfl, hz⟩ | ⟨t, ty, rfl⟩
      · show (if (!isName z) = true then _ else _)
        cases en : isName z with
        | false =>
          walk_at "go"
          exact ⟨⟨_, rfl⟩, bad (kn (.inr ⟨z, rfl, en⟩)) _ kp1⟩
        | true =>
          walk_at "go"
          refine rd_fldJ (s1 _ _ gk) T.cl_Kinds T.a_Kinds_uppers (lk_at 0 rfl (by simp)) ?_
          refine rd_dinJ (s1 _ _ gp) ?_
          walk_at "go"
          rw [valV_uppers]
          by_cases hin : z ∈ kinds ps
          · rw [decide_eq_true hin]
            walk_at "go"
            refine ⟨⟨_, rfl⟩, bad ?_ _ kp1⟩
            cases ou with
            | none => rfl
            | some y =>
              show (if isName z = true ∧ z ∉ kinds ps ∧ _ then _ else _) = none
              rw [if_neg fun c => c.2.1 hin]
          · rw [decide_eq_false hin]
            walk_at "go"
            refine ⟨u, ou, rfl, (tu.keep kp hk).same s1, fun G2 s2 => ?_⟩
            walk_at "go"
            have kp2 : Keep k H G2 := kp1.trans (.same s2)
            rcases tu with ⟨y, rfl, rfl, hy⟩ | ⟨t, ty, rfl⟩
            · show (if (!isName y) = true then _ else _)
              cases ey : isName y with
              | false =>
                walk_at "go"
                refine ⟨⟨_, rfl⟩, bad ?_ _ kp2⟩
                show (if isName z = true ∧ z ∉ kinds ps ∧ isName y = true ∧ _ then _ else _) = none
                rw [if_neg fun c => by rw [ey] at c; exact Bool.false_ne_true c.2.2.1]
              | true =>
                walk_at "go"
                by_cases hs : y = "sheaf"
                · subst hs
                  rw [decide_eq_true rfl]
                  walk_at "go"
                  refine ⟨⟨_, rfl⟩, bad ?_ _ kp2⟩
                  show (if isName z = true ∧ z ∉ kinds ps ∧ isName _ = true ∧ _ ≠ _ ∧ _ then _ else _) = none
                  rw [if_neg fun c => c.2.2.2.1 rfl]
                · rw [decide_eq_false (fun c => hs (V.str.inj c))]
                  walk_at "go"
                  refine rd_fldJ (s2 _ _ (s1 _ _ gk)) T.cl_Kinds T.a_Kinds_uppers (lk_at 0 rfl (by simp)) ?_
                  refine rd_dnotinJ (s2 _ _ (s1 _ _ gp)) ?_
                  walk_at "go"
                  rw [valV_uppers]
                  by_cases hu : y ∈ kinds ps
                  · rw [decide_eq_true hu]
                    walk_at "go"
                    refine rd_fldJ (s2 _ _ (s1 _ _ gk)) T.cl_Kinds T.a_Kinds_uppers (lk_at 0 rfl (by simp)) ?_
                    walk_at "go"
                    refine rd_dputJ (s2 _ _ (s1 _ _ gp)) (by rw [uppers_len]; omega) ?_
                    rw [put_uppers hin]
                    refine ⟨ps ++ [(z, y)], _, _, ?_, rfl, upd_far npk (s2 _ _ (s1 _ _ gk)), upd_same, kp2.mut hp⟩
                    rw [hq, kfold_snoc, hps]
                    show (if isName z = true ∧ z ∉ kinds ps ∧ isName y = true ∧ y ≠ "sheaf" ∧ y ∈ kinds ps then _ else _) = _
                    rw [if_pos ⟨en, hin, ey, hs, hu⟩]
                  · rw [decide_eq_false hu]
                    walk_at "go"
                    refine ⟨⟨_, rfl⟩, bad ?_ _ kp2⟩
                    show (if isName z = true ∧ z ∉ kinds ps ∧ isName y = true ∧ y ≠ "sheaf" ∧ y ∈ kinds ps then _ else _) = none
                    rw [if_neg fun c => hu c.2.2.2.2]
            · walk_at "go"
              exact ⟨⟨_, rfl⟩, bad rfl _ kp2⟩
      · walk_at "go"
        exact ⟨⟨_, rfl⟩, bad rfl _ kp1⟩
    · rintro σ G ⟨ps, v2, v3, hps, rfl, gk, gp, kp⟩
      rw [List.length_map, hll, List.take_length] at hps
      rw [hps] at q
      exact q G kp ⟨dx, p, gk, gp⟩

end


set_option Elab.async false
set_option linter.all false
set_option maxRecDepth 100000
set_option maxHeartbeats 4000000
section
variable {P : Program} {w : World} {K : PySem.W.Frag} {mg : Str → Option Value} {base : Heap}
theorem ok_is_whole (T : Tx K mg) : FO P w K mg base 1 ("is_whole", none) pr_is_whole spWhole := by
  refine ok0 T.f_is_whole.fn sc_is_whole (fun vs H Q E h => ?_) (fun cdv A outer s H vs Q E hr h => ?_)
  · obtain ⟨x, rfl, _⟩ := h
    rfl
  · obtain ⟨x, rfl, hx, k⟩ := h
    refine ⟨_, (pss_one (ps_ret (pe_and (pe_callB (u_isi (K := K) rfl) (by rfl) T.n_isinstance (by decide +kernel) (pa_cons (pv 0) (pa_cons (pe_bltn (v := .ty "int") (by rfl) T.n_int (by decide +kernel) rfl) pa_nil))) (pe_one (pe_not (pe_callB (u_isi (K := K) rfl) (by rfl) T.n_isinstance (by decide +kernel) (pa_cons (pv 0) (pa_cons (pe_bltn (v := .ty "bool") (by rfl) T.n_bool (by decide +kernel) rfl) pa_nil)))))))), ?_⟩
    walk_at "begin"
    rcases hx with ⟨z, rfl⟩ | ⟨t, ty⟩
    · refine rd_isi (.base (.str z)) (.ty _) (b := false) (by kernel_rfl) ?_
      walk_at "go"
      exact k
    · cases ty with
      | int i =>
        refine rd_isi (.base (.int i)) (.ty _) kit_ii ?_
        walk_at "go"
        refine rd_isi (.base (.int i)) (.ty _) kit_ib ?_
        walk_at "go"
        exact k
      | bl b =>
        refine rd_isi (.base (.bl b)) (.ty _) kit_bi ?_
        walk_at "go"
        refine rd_isi (.base (.bl b)) (.ty _) kit_bb ?_
        walk_at "go"
        exact k
      | non =>
        refine rd_isi (.base .non) (.ty _) (b := false) (by kernel_rfl) ?_
        walk_at "go"
        exact k
      | lst e =>
        refine rd_isi (.base (.lst e)) (.ty _) (b := false) (by kernel_rfl) ?_
        walk_at "go"
        exact k
      | tup e =>
        refine rd_isi (.base (.tup e)) (.ty _) (b := false) (by kernel_rfl) ?_
        walk_at "go"
        exact k
      | dic e =>
        refine rd_isi (.base (.dK e)) (.ty _) (b := false) (by kernel_rfl) ?_
        walk_at "go"
        exact k
theorem ok_Kinds_is_kind (T : Tx K mg) : FO P w K mg base 2 ("Kinds", some "is_kind") pr_Kinds_is_kind (spIsKind K) := by
  refine ok0 T.m_Kinds_is_kind.fn sc_Kinds_is_kind (fun vs H Q E h => ?_) (fun cdv A outer s H vs Q E hr h => ?_)
  · obtain ⟨k, ps, x, o, rfl, _⟩ := h
    rfl
  · obtain ⟨k, ps, x, o, rfl, ⟨dx, d, hk, hd⟩, hx, q⟩ := h
    refine ⟨_, (pss_one (ps_ret (pe_and (pe_call (ok_is_name T) (hr.mono (by decide)) (by rfl) T.f_is_name.mg T.f_is_name.fn.kp T.f_is_name.bi .nil pass0 (pa_cons (pv 1) pa_nil)) (pe_one (pe_cmp (pc_din (hu_of hr) (pv 1) (u_fld (K := K) rfl (pv 0) rfl)) rfl))))), ?_⟩
    walk_at "begin"
    refine ⟨x, o, rfl, hx, fun H1 s1 => ?_⟩
    walk_at "go"
    rcases hx with ⟨z, rfl, rfl, hz⟩ | ⟨t, ty, rfl⟩
    · show (if isName z = true then _ else _)
      cases en : isName z with
      | false =>
        walk_at "go"
        have e := q H1 s1
        have e2 : isKindO ps (some z) = false := by
          show (isName z && _) = false
          rw [en]
          rfl
        rw [e2] at e
        exact e
      | true =>
        walk_at "go"
        refine rd_fldJ (s1 _ _ hk) T.cl_Kinds T.a_Kinds_uppers (lk_at 0 rfl (by simp)) ?_
        refine rd_dinJ (s1 _ _ hd) ?_
        have e := q H1 s1
        have e2 : isKindO ps (some z) = (valV (uppers ps) (.inr z)).isSome := by
          show (isName z && _) = _
          rw [en, Bool.true_and, valV_uppers]
        rw [e2] at e
        exact e
    · walk_at "go"
      exact q H1 s1
theorem ok_Entry_init (T : Tx K mg) : FO P w K mg base 1 ("Entry", some "__init__") pr_Entry_init (spEntInit K) := by
  refine ok0 T.m_Entry_init.fn sc_Entry_init (fun vs H Q E h => ?_) (fun cdv A outer s H vs Q E hr h => ?_)
  · obtain ⟨p, l, dx, kd, tx, ms, rfl, _⟩ := h
    rfl
  · obtain ⟨p, l, dx, kd, tx, ms, rfl, hp, hl, hm, q⟩ := h
    have nlp : l ≠ p := ne_of hl hp (by intro z; cases z)
    refine ⟨_, (pss_cons (u_sfld (K := K) rfl (pv 0) (pv 1) rfl)
 (pss_cons (u_sfld (K := K) rfl (pv 0) (pv 2) rfl)
 (pss_cons (u_sfld (K := K) rfl (pv 0) (pe_callTy (u_listOf (K := K) rfl) (by rfl) T.n_list (by decide +kernel) (pa_cons (pv 3) pa_nil)) rfl)
 (pss_cons (u_sfld (K := K) rfl (pv 0) (pe_lst pa_nil) rfl)
 (pss_cons (u_sfld (K := K) rfl (pv 0) pe_non rfl)
 (pss_one (u_sfld (K := K) rfl (pv 0) pe_non rfl))))))), ?_⟩
    walk_at "begin"
    refine rd_sfldJ hp T.cl_Entry T.a_Entry_its_kind (by decide) (fs' := [("its_kind", .str kd)]) rfl ?_
    walk_at "go"
    refine rd_sfldJ upd_same T.cl_Entry T.a_Entry_told (by simp) (fs' := [("its_kind", .str kd), ("told", .str tx)]) (putF_new (by walk_at "nk")) ?_
    walk_at "go"
    rw [upd_upd]
    refine rd_listL (.inl (.inl (upd_far nlp hl))) fun li hli => ?_
    walk_at "go"
    have nli : p ≠ li := fun z => by
      rw [← z, upd_same] at hli
      cases hli
    have hli0 : H li = none := by
      rw [upd_ne nli.symm] at hli
      exact hli
    refine rd_sfldJ (upd_old hli upd_same) T.cl_Entry T.a_Entry_inner (by simp) (fs' := [("its_kind", .str kd), ("told", .str tx), ("inner", .ref li)]) (putF_new (by walk_at "nk")) ?_
    walk_at "go"
    intro ln hln
    walk_at "go"
    have npn : p ≠ ln := fun z => by
      rw [← z, upd_same] at hln
      cases hln
    have nin : li ≠ ln := fun z => by
      rw [← z, upd_ne nli.symm, upd_same] at hln
      cases hln
    have hln0 : H ln = none := by
      rw [upd_ne npn.symm, upd_ne nin.symm, upd_ne npn.symm] at hln
      exact hln
    refine rd_sfldJ (upd_old hln upd_same) T.cl_Entry T.a_Entry_noted (by simp) (fs' := [("its_kind", .str kd), ("told", .str tx), ("inner", .ref li), ("noted", .ref ln)]) (putF_new (by walk_at "nk")) ?_
    walk_at "go"
    refine rd_sfldJ upd_same T.cl_Entry T.a_Entry_blamed (by simp) (fs' := [("its_kind", .str kd), ("told", .str tx), ("inner", .ref li), ("noted", .ref ln), ("blamed", .non)]) (putF_new (by walk_at "nk")) ?_
    walk_at "go"
    refine rd_sfldJ upd_same T.cl_Entry T.a_Entry_worked (by simp) (fs' := fsEnt (ent0 kd tx ms) li ln) (putF_new (by walk_at "nk")) ?_
    refine q _ li ln (by walk_at "keep") hli0 hln0 nin ⟨⟨dx, upd_same⟩, ?_, ?_⟩
    · exact upd_far nli.symm (upd_far nli.symm (upd_far nli.symm (upd_far nin (upd_far nli.symm upd_same))))
    · exact upd_far npn.symm (upd_far npn.symm (upd_far npn.symm upd_same))
theorem ok_Ledger_init (T : Tx K mg) : FO P w K mg base 1 ("Ledger", some "__init__") pr_Ledger_init (spLedInit K) := by
  refine ok0 T.m_Ledger_init.fn sc_Ledger_init (fun vs H Q E h => ?_) (fun cdv A outer s H vs Q E hr h => ?_)
  · obtain ⟨L, kk, dx, rfl, _⟩ := h
    rfl
  · obtain ⟨L, kk, dx, rfl, hL, q⟩ := h
    refine ⟨_, (pss_cons (u_sfld (K := K) rfl (pv 0) (pv 1) rfl)
 (pss_one (u_sfld (K := K) rfl (pv 0) (pe_lst pa_nil) rfl))), ?_⟩
    walk_at "begin"
    refine rd_sfldJ hL T.cl_Ledger T.a_Ledger_sorts (by decide) (fs' := [("sorts", .ref kk)]) rfl ?_
    walk_at "go"
    intro l hl
    walk_at "go"
    have nLl : L ≠ l := fun z => by
      rw [← z, upd_same] at hl
      cases hl
    have hl0 : H l = none := by
      rw [upd_ne nLl.symm] at hl
      exact hl
    refine rd_sfldJ (upd_old hl upd_same) T.cl_Ledger T.a_Ledger_entries (by simp) (fs' := fsLed kk l) (putF_new (by walk_at "nk")) ?_
    refine q _ [l] (by walk_at "keep") ⟨l, [], ⟨⟨dx, upd_same⟩, upd_far nLl.symm upd_same, rfl, ?_, by simp [fpOf]⟩, rfl⟩ ?_
    · intro i c e hc
      simp at hc
    · intro b hb
      rw [List.mem_singleton.mp hb]
      exact hl0
theorem ok_Ledger_many (T : Tx K mg) : FO P w K mg base 1 ("Ledger", some "many") pr_Ledger_many (spMany K) := by
  refine ok0 T.m_Ledger_many.fn sc_Ledger_many (fun vs H Q E h => ?_) (fun cdv A outer s H vs Q E hr h => ?_)
  · obtain ⟨L, kk, es, F, rfl, _⟩ := h
    rfl
  · obtain ⟨L, kk, es, F, rfl, ⟨l, cs, hL, rfl⟩, q⟩ := h
    obtain ⟨dx, ob⟩ := hL.obj
    refine ⟨_, (pss_one (ps_ret (pe_callB (u_len (K := K) rfl) (by rfl) T.n_len (by decide +kernel) (pa_cons (u_fld (K := K) rfl (pv 0) rfl) pa_nil)))), ?_⟩
    walk_at "begin"
    refine rd_fldJ ob T.cl_Ledger T.a_Ledger_entries lkL_entries ?_
    walk_at "go"
    refine rd_lenL (SqL.of hL.lst) ?_
    rw [List.length_map, hL.len]
    exact q
theorem ok_Ledger_is_fault (T : Tx K mg) : FO P w K mg base 2 ("Ledger", some "is_fault") pr_Ledger_is_fault (spIsFault K) := by
  refine ok0 T.m_Ledger_is_fault.fn sc_Ledger_is_fault (fun vs H Q E h => ?_) (fun cdv A outer s H vs Q E hr h => ?_)
  · obtain ⟨L, kk, es, F, x, rfl, _⟩ := h
    rfl
  · obtain ⟨L, kk, es, F, x, rfl, ⟨l, cs, hL, rfl⟩, hx, q⟩ := h
    obtain ⟨dx, ob⟩ := hL.obj
    refine ⟨_, (pss_one (ps_ret (pe_and (pe_call (ok_is_whole T) (hr.mono (by decide)) (by rfl) T.f_is_whole.mg T.f_is_whole.fn.kp T.f_is_whole.bi .nil pass0 (pa_cons (pv 1) pa_nil)) (pe_one (pe_chain op_le op_lt pe_int (pv 1) (pe_callB (u_len (K := K) rfl) (by rfl) T.n_len (by decide +kernel) (pa_cons (u_fld (K := K) rfl (pv 0) rfl) pa_nil))))))), ?_⟩
    walk_at "begin"
    refine ⟨x, rfl, hx, ?_⟩
    walk_at "go"
    have noi : (∀ i, x ≠ .int i) → isF es.length x = false ∧ isWh x = false := by
      intro h
      cases x with
      | int i => exact absurd rfl (h i)
      | _ => exact ⟨rfl, rfl⟩
    by_cases hi : ∃ i, x = .int i
    · obtain ⟨i, rfl⟩ := hi
      show (if true = true then _ else _)
      walk_at "go"
      have q : Q (V.bl (decide (0 ≤ i ∧ i < (es.length : Int)))) H := q
      refine ite2 (fun h0 => ?_) (fun h0 => ?_)
      · have h1 := of_decide_eq_true h0
        walk_at "go"
        refine rd_fldJ ob T.cl_Ledger T.a_Ledger_entries lkL_entries ?_
        walk_at "go"
        refine rd_lenL (SqL.of hL.lst) ?_
        walk_at "go"
        rw [List.length_map, hL.len]
        have e : decide (i < (es.length : Int)) = decide (0 ≤ i ∧ i < (es.length : Int)) := by
          by_cases h2 : i < (es.length : Int)
          · rw [decide_eq_true h2, decide_eq_true ⟨h1, h2⟩]
          · rw [decide_eq_false h2, decide_eq_false (fun z => h2 z.2)]
        rw [e]
        exact q
      · have h1 : ¬ 0 ≤ i := fun z => h0 (decide_eq_true z)
        rw [decide_eq_false (fun z => h1 z.1)] at q
        exact q
    · obtain ⟨e1, e2⟩ := noi (fun i z => hi ⟨i, z⟩)
      rw [e2]
      walk_at "go"
      rw [e1] at q
      exact q
theorem ok_Ledger_entry (T : Tx K mg) : FnOk P w K mg base (L2.CX P w) 3 (He.fAd K ("Ledger", some "entry")) (fdOf K ("Ledger", some "entry")) pr_Ledger_entry (spEntry K) := by
  refine FunD.ok T.m_Ledger_entry.fn sc_Ledger_entry (fun vs H Q E h => ?_) (fun cdv A outer s H vs Q E hr h => ?_)
  · obtain ⟨L, kk, l, cs, es, x, rfl, _⟩ := h
    rfl
  · obtain ⟨L, kk, l, cs, es, x, rfl, hL, hx, q⟩ := h
    obtain ⟨dx, ob⟩ := hL.obj
    refine ⟨_, (pss_cons (ps_if (pt_not (pt_val (pe_meth (pv 0) T.cl_Ledger T.m_Ledger_is_fault.me (ok_Ledger_is_fault T) (hr.mono (by decide)) T.m_Ledger_is_fault.bi .nil pass0 (pa_cons (pv 1) pa_nil))))
 (pss_one (ps_raise rfl (takes_of rfl rfl rfl rfl) (pmk_fault (T.x_NoFault).o (T.x_NoFault).i (T.x_NoFault).ty (ok_FaultError_init T) (hr.mono (by decide)) T.m_FaultError_init.bi (by rfl) T.k_NoFault pe_str)))
 pss_nil)
 (pss_one (ps_ret (pe_ix (u_ix (K := K) rfl) (u_fld (K := K) rfl (pv 0) rfl) (pv 1) (fun _ _ => rfl))))), ?_⟩
    walk_at "begin"
    refine rd_methJ ob (lkL_no (by decide +kernel)) ?_
    walk_at "go"
    refine ⟨L, kk, es, _, x, rfl, ⟨l, cs, hL, rfl⟩, hx, ?_⟩
    walk_at "go"
    rcases q with ⟨i, c, rfl, hc, q⟩ | ⟨e, q⟩
    · have li : i < cs.length := (List.getElem?_eq_some_iff.mp hc).1
      have e1 : isF es.length (natV i) = true := decide_eq_true ⟨by omega, by rw [← hL.len]; omega⟩
      rw [e1]
      walk_at "go"
      refine rd_fldJ ob T.cl_Ledger T.a_Ledger_entries lkL_entries ?_
      walk_at "go"
      refine rd_ixL hL.lst (atI_nat (j := i) (v := .ref c.p) ?_) q
      rw [List.getElem?_map, hc]
      rfl
    · rw [e]
      walk_at "go"
      exact ⟨⟨_, rfl⟩, q⟩
theorem ok_Ledger_kind (T : Tx K mg) : FnOk P w K mg base (L2.CX P w) 4 (He.fAd K ("Ledger", some "kind")) (fdOf K ("Ledger", some "kind")) pr_Ledger_kind (spRead K fun e => .str e.kind) := by
  refine FunD.ok T.m_Ledger_kind.fn sc_Ledger_kind (fun vs H Q E h => ?_) (fun cdv A outer s H vs Q E hr h => ?_)
  · obtain ⟨L, kk, es, F, x, rfl, _⟩ := h
    rfl
  · obtain ⟨L, kk, es, F, x, rfl, ⟨l, cs, hL, rfl⟩, hx, q⟩ := h
    obtain ⟨dx, ob⟩ := hL.obj
    refine ⟨_, (pss_one (ps_ret (u_fld (K := K) rfl (pe_meth (pv 0) T.cl_Ledger T.m_Ledger_entry.me (ok_Ledger_entry T) (hr.mono (by decide)) T.m_Ledger_entry.bi .nil (passes_call (takes_of rfl rfl rfl rfl) (fun _ _ _ _ h => h)) (pa_cons (pv 1) pa_nil)) rfl))), ?_⟩
    walk_at "begin"
    refine rd_methJ ob (lkL_no (by decide +kernel)) ?_
    walk_at "go"
    refine ⟨L, kk, l, cs, es, x, rfl, hL, hx, ?_⟩
    rcases q with ⟨i, e, rfl, he, q⟩ | ⟨e, q⟩
    · obtain ⟨c, e', hc, he', ⟨dp, hp⟩, _⟩ := hL.at (List.getElem?_eq_some_iff.mp he).1
      rw [he] at he'
      cases he'
      exact .inl ⟨i, c, rfl, hc, rd_fldJ hp T.cl_Entry T.a_Entry_its_kind lkE_its_kind q⟩
    · exact .inr ⟨e, q⟩
theorem ok_Ledger_text (T : Tx K mg) : FnOk P w K mg base (L2.CX P w) 4 (He.fAd K ("Ledger", some "text")) (fdOf K ("Ledger", some "text")) pr_Ledger_text (spRead K fun e => .str e.text) := by
  refine FunD.ok T.m_Ledger_text.fn sc_Ledger_text (fun vs H Q E h => ?_) (fun cdv A outer s H vs Q E hr h => ?_)
  · obtain ⟨L, kk, es, F, x, rfl, _⟩ := h
    rfl
  · obtain ⟨L, kk, es, F, x, rfl, ⟨l, cs, hL, rfl⟩, hx, q⟩ := h
    obtain ⟨dx, ob⟩ := hL.obj
    refine ⟨_, (pss_one (ps_ret (u_fld (K := K) rfl (pe_meth (pv 0) T.cl_Ledger T.m_Ledger_entry.me (ok_Ledger_entry T) (hr.mono (by decide)) T.m_Ledger_entry.bi .nil (passes_call (takes_of rfl rfl rfl rfl) (fun _ _ _ _ h => h)) (pa_cons (pv 1) pa_nil)) rfl))), ?_⟩
    walk_at "begin"
    refine rd_methJ ob (lkL_no (by decide +kernel)) ?_
    walk_at "go"
    refine ⟨L, kk, l, cs, es, x, rfl, hL, hx, ?_⟩
    rcases q with ⟨i, e, rfl, he, q⟩ | ⟨e, q⟩
    · obtain ⟨c, e', hc, he', ⟨dp, hp⟩, _⟩ := hL.at (List.getElem?_eq_some_iff.mp he).1
      rw [he] at he'
      cases he'
      exact .inl ⟨i, c, rfl, hc, rd_fldJ hp T.cl_Entry T.a_Entry_told lkE_told q⟩
    · exact .inr ⟨e, q⟩
theorem ok_Ledger_cause (T : Tx K mg) : FnOk P w K mg base (L2.CX P w) 4 (He.fAd K ("Ledger", some "cause")) (fdOf K ("Ledger", some "cause")) pr_Ledger_cause (spRead K fun e => optN e.cause) := by
  refine FunD.ok T.m_Ledger_cause.fn sc_Ledger_cause (fun vs H Q E h => ?_) (fun cdv A outer s H vs Q E hr h => ?_)
  · obtain ⟨L, kk, es, F, x, rfl, _⟩ := h
    rfl
  · obtain ⟨L, kk, es, F, x, rfl, ⟨l, cs, hL, rfl⟩, hx, q⟩ := h
    obtain ⟨dx, ob⟩ := hL.obj
    refine ⟨_, (pss_one (ps_ret (u_fld (K := K) rfl (pe_meth (pv 0) T.cl_Ledger T.m_Ledger_entry.me (ok_Ledger_entry T) (hr.mono (by decide)) T.m_Ledger_entry.bi .nil (passes_call (takes_of rfl rfl rfl rfl) (fun _ _ _ _ h => h)) (pa_cons (pv 1) pa_nil)) rfl))), ?_⟩
    walk_at "begin"
    refine rd_methJ ob (lkL_no (by decide +kernel)) ?_
    walk_at "go"
    refine ⟨L, kk, l, cs, es, x, rfl, hL, hx, ?_⟩
    rcases q with ⟨i, e, rfl, he, q⟩ | ⟨e, q⟩
    · obtain ⟨c, e', hc, he', ⟨dp, hp⟩, _⟩ := hL.at (List.getElem?_eq_some_iff.mp he).1
      rw [he] at he'
      cases he'
      exact .inl ⟨i, c, rfl, hc, rd_fldJ hp T.cl_Entry T.a_Entry_blamed lkE_blamed q⟩
    · exact .inr ⟨e, q⟩
theorem ok_Ledger_at_work (T : Tx K mg) : FnOk P w K mg base (L2.CX P w) 4 (He.fAd K ("Ledger", some "at_work")) (fdOf K ("Ledger", some "at_work")) pr_Ledger_at_work (spRead K fun e => optN e.work) := by
  refine FunD.ok T.m_Ledger_at_work.fn sc_Ledger_at_work (fun vs H Q E h => ?_) (fun cdv A outer s H vs Q E hr h => ?_)
  · obtain ⟨L, kk, es, F, x, rfl, _⟩ := h
    rfl
  · obtain ⟨L, kk, es, F, x, rfl, ⟨l, cs, hL, rfl⟩, hx, q⟩ := h
    obtain ⟨dx, ob⟩ := hL.obj
    refine ⟨_, (pss_one (ps_ret (u_fld (K := K) rfl (pe_meth (pv 0) T.cl_Ledger T.m_Ledger_entry.me (ok_Ledger_entry T) (hr.mono (by decide)) T.m_Ledger_entry.bi .nil (passes_call (takes_of rfl rfl rfl rfl) (fun _ _ _ _ h => h)) (pa_cons (pv 1) pa_nil)) rfl))), ?_⟩
    walk_at "begin"
    refine rd_methJ ob (lkL_no (by decide +kernel)) ?_
    walk_at "go"
    refine ⟨L, kk, l, cs, es, x, rfl, hL, hx, ?_⟩
    rcases q with ⟨i, e, rfl, he, q⟩ | ⟨e, q⟩
    · obtain ⟨c, e', hc, he', ⟨dp, hp⟩, _⟩ := hL.at (List.getElem?_eq_some_iff.mp he).1
      rw [he] at he'
      cases he'
      exact .inl ⟨i, c, rfl, hc, rd_fldJ hp T.cl_Entry T.a_Entry_worked lkE_worked q⟩
    · exact .inr ⟨e, q⟩
theorem ok_Ledger_members (T : Tx K mg) : FnOk P w K mg base (L2.CX P w) 4 (He.fAd K ("Ledger", some "members")) (fdOf K ("Ledger", some "members")) pr_Ledger_members (spReadL K fun e => e.mem.map natV) := by
  refine FunD.ok T.m_Ledger_members.fn sc_Ledger_members (fun vs H Q E h => ?_) (fun cdv A outer s H vs Q E hr h => ?_)
  · obtain ⟨L, kk, es, F, x, rfl, _⟩ := h
    rfl
  · obtain ⟨L, kk, es, F, x, rfl, ⟨l, cs, hL, rfl⟩, hx, q⟩ := h
    obtain ⟨dx, ob⟩ := hL.obj
    refine ⟨_, (pss_one (ps_ret (pe_callTy (u_listOf (K := K) rfl) (by rfl) T.n_list (by decide +kernel) (pa_cons (u_fld (K := K) rfl (pe_meth (pv 0) T.cl_Ledger T.m_Ledger_entry.me (ok_Ledger_entry T) (hr.mono (by decide)) T.m_Ledger_entry.bi .nil (passes_call (takes_of rfl rfl rfl rfl) (fun _ _ _ _ h => h)) (pa_cons (pv 1) pa_nil)) rfl) pa_nil)))), ?_⟩
    walk_at "begin"
    refine rd_methJ ob (lkL_no (by decide +kernel)) ?_
    walk_at "go"
    refine ⟨L, kk, l, cs, es, x, rfl, hL, hx, ?_⟩
    rcases q with ⟨i, e, rfl, he, q⟩ | ⟨e, q⟩
    · obtain ⟨c, e', hc, he', hE⟩ := hL.at (List.getElem?_eq_some_iff.mp he).1
      rw [he] at he'
      cases he'
      obtain ⟨dp, hp⟩ := hE.1
      refine .inl ⟨i, c, rfl, hc, rd_fldJ hp T.cl_Entry T.a_Entry_inner lkE_inner ?_⟩
      walk_at "go"
      exact rd_listL (SqL.of hE.2.1) q
    · exact .inr ⟨e, q⟩
theorem ok_Ledger_notes (T : Tx K mg) : FnOk P w K mg base (L2.CX P w) 4 (He.fAd K ("Ledger", some "notes")) (fdOf K ("Ledger", some "notes")) pr_Ledger_notes (spReadL K fun e => e.notes.map V.str) := by
  refine FunD.ok T.m_Ledger_notes.fn sc_Ledger_notes (fun vs H Q E h => ?_) (fun cdv A outer s H vs Q E hr h => ?_)
  · obtain ⟨L, kk, es, F, x, rfl, _⟩ := h
    rfl
  · obtain ⟨L, kk, es, F, x, rfl, ⟨l, cs, hL, rfl⟩, hx, q⟩ := h
    obtain ⟨dx, ob⟩ := hL.obj
    refine ⟨_, (pss_one (ps_ret (pe_callTy (u_listOf (K := K) rfl) (by rfl) T.n_list (by decide +kernel) (pa_cons (u_fld (K := K) rfl (pe_meth (pv 0) T.cl_Ledger T.m_Ledger_entry.me (ok_Ledger_entry T) (hr.mono (by decide)) T.m_Ledger_entry.bi .nil (passes_call (takes_of rfl rfl rfl rfl) (fun _ _ _ _ h => h)) (pa_cons (pv 1) pa_nil)) rfl) pa_nil)))), ?_⟩
    walk_at "begin"
    refine rd_methJ ob (lkL_no (by decide +kernel)) ?_
    walk_at "go"
    refine ⟨L, kk, l, cs, es, x, rfl, hL, hx, ?_⟩
    rcases q with ⟨i, e, rfl, he, q⟩ | ⟨e, q⟩
    · obtain ⟨c, e', hc, he', hE⟩ := hL.at (List.getElem?_eq_some_iff.mp he).1
      rw [he] at he'
      cases he'
      obtain ⟨dp, hp⟩ := hE.1
      refine .inl ⟨i, c, rfl, hc, rd_fldJ hp T.cl_Entry T.a_Entry_noted lkE_noted ?_⟩
      walk_at "go"
      exact rd_listL (SqL.of hE.2.2) q
    · exact .inr ⟨e, q⟩

end



set_option Elab.async false
set_option linter.all false
set_option maxRecDepth 100000
set_option maxHeartbeats 4000000
section
variable {P : Program} {w : World} {K : PySem.W.Frag} {mg : Str → Option Value} {base : Heap}
theorem ok_Ledger_want_all (T : Tx K mg) : FnOk P w K mg base (L2.CX P w) 4 (He.fAd K ("Ledger", some "want_all")) (fdOf K ("Ledger", some "want_all")) pr_Ledger_want_all (spWantAll K) := by
  refine FunD.ok T.m_Ledger_want_all.fn sc_Ledger_want_all (fun vs H Q E h => ?_) (fun cdv A outer s H vs Q E hr h => ?_)
  · obtain ⟨L, kk, l, es, F, xs, rfl, _⟩ := h
    rfl
  · obtain ⟨L, kk, l, es, F, xs, rfl, ⟨lst, cs, hL, rfl⟩, hl, hx, hany, ⟨ds, hds, sds⟩, q⟩ := h
    obtain ⟨dx, ob⟩ := hL.obj
    refine ⟨_, (pss_cons (ps_if (pt_cmpR (u_eqD (K := K) rfl hr.units) (pv 1) (pe_lst pa_nil) (nomark _))
 (pss_one (ps_raise rfl (takes_of rfl rfl rfl rfl) (pmk_fault (T.x_Empty).o (T.x_Empty).i (T.x_Empty).ty (ok_FaultError_init T) (hr.mono (by decide)) T.m_FaultError_init.bi (by rfl) T.k_Empty pe_str)))
 pss_nil)
 (pss_one (ps_for (passes_of rfl) (by rfl) (u_ilist (K := K) rfl (pv 1)) (pg_name (i := 2) sc_Ledger_want_all.nd rfl (by first | exact Or.inl rfl | exact Or.inr rfl))
 (pss_one (ps_expr (pe_meth (pv 0) T.cl_Ledger T.m_Ledger_entry.me (ok_Ledger_entry T) (hr.mono (by decide)) T.m_Ledger_entry.bi .nil (passes_call (takes_of rfl rfl rfl rfl) (fun _ _ _ _ h => h)) (pa_cons (pv 2) pa_nil))))))), ?_⟩
    walk_at "begin"
    intro l0 hl0
    have s0 : Same H (upd H l0 (.lst [])) := same_new hl0
    refine rd_eqD (d := .list ds) (e := .list []) (.lst (SqL.of (s0 _ _ hl)) ?_) (.lst (SqL.of upd_same) .nil) sds rfl ?_
    · exact dpAll_same s0 hds
    walk_at "go"
    rw [eqv_nil]
    obtain ⟨q1, q2, q3⟩ := q _ s0
    cases xs with
    | nil =>
      cases hds
      walk_at "go"
      exact ⟨⟨_, rfl⟩, q1 rfl⟩
    | cons y ys =>
      cases ds with
      | nil => cases hds
      | cons d ds =>
        show (if false = true then _ else _)
        walk_at "go"
        have q2 := q2 (by simp)
        have q3 := q3 (by simp)
        refine rd_ilistJ (SqL.of (s0 _ _ hl)) ?_
        refine for_L (xs := y :: ys) (fun i σ G => ∃ v2, σ = [some (.ref L), some (.ref l), v2] ∧ G = upd H l0 (.lst []) ∧ ∀ x ∈ (y :: ys).take i, isF es.length x = true) ⟨none, rfl, rfl, by simp⟩ ?_ ?_ ?_
        · rintro i σ G _ ⟨v2, rfl, rfl, _⟩
          exact SqL.of (s0 _ _ hl)
        · rintro i x σ G hi ⟨v2, rfl, rfl, hall⟩
          have hxm : x ∈ y :: ys := List.mem_of_getElem? hi
          walk_at "go"
          refine rd_methJ (s0 _ _ ob) (lkL_no (by decide +kernel)) ?_
          walk_at "go"
          have hL1 := hL.mono (H' := upd H l0 (.lst [])) fun b o _ z => s0 b o z
          refine ⟨L, kk, lst, cs, es, x, rfl, hL1, (hany x hxm).same s0, ?_⟩
          cases ef : isF es.length x with
          | false => exact .inr ⟨rfl, q3 ⟨x, hxm, ef⟩⟩
          | true =>
            obtain ⟨j, rfl, hj⟩ := isF_nat ef
            obtain ⟨c, e, hc, _⟩ := hL1.at hj
            refine .inl ⟨j, c, rfl, hc, ?_⟩
            refine ⟨_, rfl, rfl, fun x hx => ?_⟩
            rw [List.take_succ, hi] at hx
            rcases List.mem_append.mp hx with h | h
            · exact hall x h
            · have h' : x = natV j := by simpa using h
              rw [h']
              exact ef
        · rintro σ G ⟨v2, rfl, rfl, hall⟩
          rw [List.take_length] at hall
          exact q2 hall
theorem ok_Ledger_come (T : Tx K mg) : FO P w K mg base 1 ("Ledger", some "come") pr_Ledger_come (spCome K) := by
  refine ok0 T.m_Ledger_come.fn sc_Ledger_come (fun vs H Q E h => ?_) (fun cdv A outer s H vs Q E hr h => ?_)
  · obtain ⟨L, kk, l, cs, es, c, e, rfl, _⟩ := h
    rfl
  · obtain ⟨L, kk, l, cs, es, c, e, rfl, hL, hz, hc, n1, n2, q⟩ := h
    obtain ⟨dx, ob⟩ := hL.obj
    have nL : L ≠ l := ne_of ob hL.lst (by intro z; cases z)
    refine ⟨_, (pss_cons (ps_expr (pe_bm PySem.F.plainAttrs_list PySem.F.slot_list_append PySem.F.type_list_append mt_append (u_fld (K := K) rfl (pv 0) rfl) (pa_cons (pv 1) pa_nil)))
 (pss_one (ps_ret (pe_op op_sub (pe_callB (u_len (K := K) rfl) (by rfl) T.n_len (by decide +kernel) (pa_cons (u_fld (K := K) rfl (pv 0) rfl) pa_nil)) pe_int)))), ?_⟩
    walk_at "begin"
    refine rd_fldJ ob T.cl_Ledger T.a_Ledger_entries lkL_entries ?_
    refine rd_bmL hL.lst ?_
    walk_at "go"
    refine rd_append hL.lst (by rw [List.length_map, hL.len]; omega) ?_
    walk_at "go"
    refine rd_fldJ (upd_far nL ob) T.cl_Ledger T.a_Ledger_entries lkL_entries ?_
    walk_at "go"
    refine rd_lenL (SqL.of upd_same) ?_
    walk_at "go"
    have e1 : (((((cs.map fun c : Cell => V.ref c.p) ++ [V.ref c.p]).length : Nat) : Int) - 1) = (es.length : Nat) := by
      rw [List.length_append, List.length_map, hL.len, List.length_singleton]
      omega
    rw [e1]
    exact q _ .upd (hL.snoc hc n1 n2 nL)
theorem ok_Ledger_plain (T : Tx K mg) : FnOk P w K mg base (L2.CX P w) 4 (He.fAd K ("Ledger", some "plain")) (fdOf K ("Ledger", some "plain")) pr_Ledger_plain (spPlain K) := by
  refine FunD.ok T.m_Ledger_plain.fn sc_Ledger_plain (fun vs H Q E h => ?_) (fun cdv A outer s H vs Q E hr h => ?_)
  · obtain ⟨L, kk, ps, es, F, x, y, ox, oy, rfl, _⟩ := h
    rfl
  · obtain ⟨L, kk, ps, es, F, x, y, ox, oy, rfl, ⟨lst, cs, hL, rfl⟩, hK, hz, hx, hy, q1, q2, q3⟩ := h
    obtain ⟨dx, ob⟩ := hL.obj
    have hK' := hK
    obtain ⟨dk, d, ek, ed⟩ := hK'
    refine ⟨_, (pss_cons (ps_if (PW.pt (pw_or (pt_not (pt_val (pe_meth (u_fld (K := K) rfl (pv 0) rfl) T.cl_Kinds T.m_Kinds_is_kind.me (ok_Kinds_is_kind T) (hr.mono (by decide)) T.m_Kinds_is_kind.bi .nil pass0 (pa_cons (pv 1) pa_nil)))) (pw_or1 (pt_cmpR op_eq (pv 1) (u_gstr (by rfl) T.c_SHEAF) (nomark _)))))
 (pss_one (ps_raise rfl (takes_of rfl rfl rfl rfl) (pmk_fault (T.x_NoKind).o (T.x_NoKind).i (T.x_NoKind).ty (ok_FaultError_init T) (hr.mono (by decide)) T.m_FaultError_init.bi (by rfl) T.k_NoKind pe_str)))
 pss_nil)
 (pss_cons (ps_if (pt_not (pt_val (pe_callB (u_isi (K := K) rfl) (by rfl) T.n_isinstance (by decide +kernel) (pa_cons (pv 2) (pa_cons (pe_bltn (v := .ty "str") (by rfl) T.n_str (by decide +kernel) rfl) pa_nil)))))
 (pss_one (ps_raise rfl (takes_of rfl rfl rfl rfl) (pmk_fault (T.x_NoText).o (T.x_NoText).i (T.x_NoText).ty (ok_FaultError_init T) (hr.mono (by decide)) T.m_FaultError_init.bi (by rfl) T.k_NoText pe_str)))
 pss_nil)
 (pss_one (ps_ret (pe_meth (pv 0) T.cl_Ledger T.m_Ledger_come.me (ok_Ledger_come T) (hr.mono (by decide)) T.m_Ledger_come.bi .nil pass0 (pa_cons (pe_make T.mk_Entry (ok_Entry_init T) (hr.mono (by decide)) (by rfl) T.k_Entry T.m_Entry_init.bi .nil pass0 (pa_cons (pv 1) (pa_cons (pv 2) (pa_cons (pe_lst pa_nil) pa_nil)))) pa_nil)))))), ?_⟩
    walk_at "begin"
    refine rd_fldJ ob T.cl_Ledger T.a_Ledger_sorts lkL_sorts ?_
    refine rd_methJ ek (lkK_no (by decide +kernel)) ?_
    walk_at "go"
    refine ⟨kk, ps, x, ox, rfl, hK, hx, fun H1 s1 => ?_⟩
    walk_at "go"
    have pl : isPlainO ps ox = (isKindO ps ox && !decide (ox = some ("sheaf" : Str))) := by
      cases ox with
      | none => rfl
      | some z =>
        show (isName z && decide (z ∈ kinds ps) && !decide (z = "sheaf")) = ((isName z && decide (z ∈ kinds ps)) && _)
        congr 2
        by_cases h : z = "sheaf"
        · simp [h]
        · rw [decide_eq_false h, decide_eq_false fun c => h (Option.some.inj c)]
    cases ek1 : isKindO ps ox with
    | false =>
      walk_at "go"
      rw [ek1, Bool.false_and] at pl
      exact ⟨⟨_, rfl⟩, q1 pl _ s1⟩
    | true =>
      rw [ek1, Bool.true_and] at pl
      walk_at "go"
      rcases hx with ⟨z, rfl, rfl, hzl⟩ | ⟨t, ty, rfl⟩
      · walk_at "go"
        by_cases hs : z = "sheaf"
        · subst hs
          rw [decide_eq_true rfl]
          walk_at "go"
          exact ⟨⟨_, rfl⟩, q1 (by rw [pl]; decide) _ s1⟩
        · rw [decide_eq_false (fun c => hs (V.str.inj c))]
          have pl' : isPlainO ps (some z) = true := by
            rw [pl, decide_eq_false (fun c => hs (Option.some.inj c))]
            rfl
          walk_at "go"
          rcases hy with ⟨u, rfl, rfl, hul⟩ | ⟨t, ty, rfl⟩
          · refine rd_isi (.base (.str u)) (.ty _) kit_ss ?_
            walk_at "go"
            refine rd_methJ (s1 _ _ ob) (lkL_no (by decide +kernel)) ?_
            walk_at "go"
            intro l0 hl0
            walk_at "go"
            intro p dp hp hdp ndp
            have e0 : upd (upd (upd H1 l0 (.lst [])) dp (.own p)) p (.ins (He.ga K "Entry") dp []) l0 = some (.lst []) := by
              have n1 : l0 ≠ p := fun z => by rw [← z, upd_same] at hp; cases hp
              have n2 : l0 ≠ dp := fun z => by rw [← z, upd_same] at hdp; cases hdp
              exact upd_far n1 (upd_far n2 upd_same)
            refine ⟨p, l0, dp, z, u, [], rfl, upd_same, e0, by simp, fun H3 li ln k3 hli hln nin hE => ⟨rfl, ?_⟩⟩
            have en := enters hL (s1.trans (same_new hl0)) hp hdp k3 hli hln nin
            walk_at "go"
            exact ⟨L, kk, lst, cs, es, ⟨p, li, ln⟩, _, rfl, en.led, hz, hE, en.out, en.nd, fun H4 k4 h4 => comes_end (q3 z u rfl rfl pl') en k4 h4⟩
          · refine rd_isi (ty.mono fun a o _ e => s1 a o e).ty (.ty _) (ty.mono fun a o _ e => s1 a o e).kit ?_
            walk_at "go"
            exact ⟨⟨_, rfl⟩, q2 pl' rfl _ s1⟩
      · cases ek1
theorem ok_Ledger_sheaf (T : Tx K mg) : FnOk P w K mg base (L2.CX P w) 5 (He.fAd K ("Ledger", some "sheaf")) (fdOf K ("Ledger", some "sheaf")) pr_Ledger_sheaf (spSheaf K) := by
  refine FunD.ok T.m_Ledger_sheaf.fn sc_Ledger_sheaf (fun vs H Q E h => ?_) (fun cdv A outer s H vs Q E hr h => ?_)
  · obtain ⟨L, kk, l, es, F, y, oy, xs, rfl, _⟩ := h
    rfl
  · obtain ⟨L, kk, l, es, F, y, oy, xs, rfl, hLA, hz, hy, hl, hxs, hany, hdp, q1, q2, q3, q4⟩ := h
    have hLA' := hLA
    obtain ⟨lst, cs, hL, rfl⟩ := hLA'
    obtain ⟨dx, ob⟩ := hL.obj
    refine ⟨_, (pss_cons (ps_if (pt_not (pt_val (pe_callB (u_isi (K := K) rfl) (by rfl) T.n_isinstance (by decide +kernel) (pa_cons (pv 1) (pa_cons (pe_bltn (v := .ty "str") (by rfl) T.n_str (by decide +kernel) rfl) pa_nil)))))
 (pss_one (ps_raise rfl (takes_of rfl rfl rfl rfl) (pmk_fault (T.x_NoText).o (T.x_NoText).i (T.x_NoText).ty (ok_FaultError_init T) (hr.mono (by decide)) T.m_FaultError_init.bi (by rfl) T.k_NoText pe_str)))
 pss_nil)
 (pss_cons (ps_expr (pe_meth (pv 0) T.cl_Ledger T.m_Ledger_want_all.me (ok_Ledger_want_all T) (hr.mono (by decide)) T.m_Ledger_want_all.bi .nil (passes_call (takes_of rfl rfl rfl rfl) (fun _ _ _ _ h => h)) (pa_cons (pv 2) pa_nil)))
 (pss_one (ps_ret (pe_meth (pv 0) T.cl_Ledger T.m_Ledger_come.me (ok_Ledger_come T) (hr.mono (by decide)) T.m_Ledger_come.bi .nil pass0 (pa_cons (pe_make T.mk_Entry (ok_Entry_init T) (hr.mono (by decide)) (by rfl) T.k_Entry T.m_Entry_init.bi .nil pass0 (pa_cons (u_gstr (by rfl) T.c_SHEAF) (pa_cons (pv 1) (pa_cons (pv 2) pa_nil)))) pa_nil)))))), ?_⟩
    walk_at "begin"
    rcases hy with ⟨u, rfl, rfl, hul⟩ | ⟨t, ty, rfl⟩
    · refine rd_isi (.base (.str u)) (.ty _) kit_ss ?_
      walk_at "go"
      refine rd_methJ ob (lkL_no (by decide +kernel)) ?_
      walk_at "go"
      refine ⟨L, kk, l, es, _, xs, rfl, hLA, hl, hxs, hany, hdp, fun H1 s1 => ⟨fun e => q2 rfl e H1 s1, fun ne hall => ?_, fun ne hb => q3 rfl ne hb H1 s1⟩⟩
      obtain ⟨ms, rfl⟩ : ∃ ms : List Nat, xs = ms.map natV := by
        have key : ∀ ys : List V, (∀ x ∈ ys, isF es.length x = true) → ∃ ms : List Nat, ys = ms.map natV := by
          intro ys
          induction ys with
          | nil => exact fun _ => ⟨[], rfl⟩
          | cons x ys ih =>
            intro h
            obtain ⟨i, rfl, _⟩ := isF_nat (h x (List.mem_cons_self ..))
            obtain ⟨ms, rfl⟩ := ih fun x hx => h x (List.mem_cons_of_mem _ hx)
            exact ⟨i :: ms, rfl⟩
        exact key xs hall
      have hms : ∀ m ∈ ms, m < es.length := fun m hm => by
        have h1 : isF es.length (natV m) = true := hall _ (List.mem_map.mpr ⟨m, hm, rfl⟩)
        have h2 : 0 ≤ (m : Int) ∧ (m : Int) < (es.length : Int) := of_decide_eq_true h1
        omega
      walk_at "go"
      refine rd_methJ (s1 _ _ ob) (lkL_no (by decide +kernel)) ?_
      walk_at "go"
      intro p dp hp hdp ndp
      have nlp : l ≠ p := ne_of_none (s1 _ _ hl) hp
      have nld : l ≠ dp := ne_of_none (s1 _ _ hl) hdp
      refine ⟨p, l, dp, "sheaf", u, ms, rfl, upd_same, upd_far nlp (upd_far nld (s1 _ _ hl)), by rw [List.length_map] at hxs; exact hxs, fun H3 li ln k3 hli hln nin hE => ⟨rfl, ?_⟩⟩
      have en := enters hL s1 hp hdp k3 hli hln nin
      walk_at "go"
      exact ⟨L, kk, lst, cs, es, ⟨p, li, ln⟩, _, rfl, en.led, hz, hE, en.out, en.nd, fun H4 k4 h4 => comes_end (q4 u ms rfl rfl (fun z => ne (by rw [z]; rfl)) hms) en k4 h4⟩
    · refine rd_isi ty.ty (.ty _) ty.kit ?_
      walk_at "go"
      exact ⟨⟨_, rfl⟩, q1 rfl⟩

end



set_option Elab.async false
set_option linter.all false
set_option maxRecDepth 100000
set_option maxHeartbeats 4000000
section
variable {P : Program} {w : World} {K : PySem.W.Frag} {mg : Str → Option Value} {base : Heap}
theorem ok_l_name (T : Tx K mg) : FO P w K mg base 2 ("_law_name", none) pr_l_name spLName := by
  refine ok0 T.f_l_name.fn sc_l_name (fun vs H Q E h => ?_) (fun cdv A outer s H vs Q E hr h => ?_)
  · obtain ⟨p, n, rfl, _⟩ := h
    rfl
  · obtain ⟨p, n, rfl, hn, hp, k⟩ := h
    refine ⟨_, (pss_one (ps_ret (u_join (K := K) rfl pe_str (pe_lc (own := [("_law_k", 1)]) (by rfl) sc_l_name.nd (pi_range1 (by rfl) T.n_range (pa_cons (pe_op op_add pe_int (pe_call (ok_l_digit T) (hr.mono (by decide)) (by rfl) T.f_l_digit.mg T.f_l_digit.fn.kp T.f_l_digit.bi .nil pass0 (pa_cons (pv 0) (pa_cons pe_int pa_nil)))) pa_nil)) (blkOk_by (N := nm_l_name) (sc := defScope s_l_name) (own := [("_law_k", 1)]) (by decide +kernel)) (fun _ _ _ _ _ => (pg_name (i := 1) sc_l_name.nd rfl (by first | exact Or.inl rfl | exact Or.inr rfl))) (fun _ _ _ _ _ => pts_nil) (fun _ _ _ _ _ => (pe_ix (u_ix (K := K) rfl) pe_str (pe_call (ok_l_digit T) (hr.mono (by decide)) (by rfl) T.f_l_digit.mg T.f_l_digit.fn.kp T.f_l_digit.bi .nil pass0 (pa_cons (pv 0) (pa_cons pe_int pa_nil))) (fun _ _ => rfl))))))), ?_⟩
    walk_at "begin"
    refine rd_digit (by decide) (by decide) (by omega) hp fun H1 d1 k1 p1 d10 d11 => ?_
    walk_at "go"
    refine rd_rngJ (by omega) (by omega) ?_
    refine lc_R (fun D i G => ∃ cs : List Nat, cs.length = i ∧ (∀ c ∈ cs, c ∈ letters.cps.toList) ∧ G D = some (.lst (cs.map oneSign)) ∧ PotAt (n + 1 + i) G p ∧ Keep p H G) (fun D hD => ?_) ?_ ?_
    · have hDp := p1.ne hD
      exact ⟨[], rfl, by simp, upd_same, (p1.mut hDp).mono (by omega), k1.mut (k1.back hDp hD)⟩
    · rintro D i G hD hi ⟨cs, hc, hs, eD, hp', hK⟩
      have hDp := p1.ne hD
      walk_at "go"
      refine ⟨rfl, ?_⟩
      walk_at "go"
      refine rd_digit (by decide) (by decide) (by omega) hp' fun H4 d4 k4 p4 d40 d41 => ?_
      obtain ⟨c, ec, sc, _⟩ := letters_at d40 d41
      refine rd_ixS (by decide +kernel) ec ?_
      refine ⟨_, k4 _ _ hDp eD, ?_, ?_⟩
      · rw [List.length_map]
        exact Nat.lt_of_lt_of_le (show cs.length < 1000 by omega) (by decide)
      · refine ⟨cs ++ [c], by simp [hc], ?_, ?_, (p4.mut hDp).mono (by omega), (hK.trans k4).mut (k1.back hDp hD)⟩
        · intro x hx
          rcases List.mem_append.mp hx with h | h
          · exact hs x h
          · rw [List.mem_singleton.mp h]
            exact sc
        · rw [upd_same, List.map_append]
          rfl
    · rintro D G hD ⟨cs, hc, hs, eD, hp', hK⟩
      refine rd_joinSigns eD (by omega) ?_
      exact k _ _ hK (hp'.mono (by omega)) (isName_of (by omega) (by omega) hs)
theorem ok_l_fresh (T : Tx K mg) : FO P w K mg base 3 ("_law_fresh", none) pr_l_fresh spFresh := by
  refine ok0 T.f_l_fresh.fn sc_l_fresh (fun vs H Q E h => ?_) (fun cdv A outer s H vs Q E hr h => ?_)
  · obtain ⟨p, t, n, ts, rfl, _⟩ := h
    rfl
  · obtain ⟨p, t, n, ts, rfl, hn, hp, ntp, ht, hts, k⟩ := h
    refine ⟨_, (pss_cons (ps_set (i := 2) sc_l_fresh.nd rfl (by first | exact Or.inl rfl | exact Or.inr rfl) (pe_call (ok_l_name T) (hr.mono (by decide)) (by rfl) T.f_l_name.mg T.f_l_name.fn.kp T.f_l_name.bi .nil pass0 (pa_cons (pv 0) pa_nil)))
 (pss_cons (ps_set (i := 3) sc_l_fresh.nd rfl (by first | exact Or.inl rfl | exact Or.inr rfl) pe_str)
 (pss_cons (ps_for PassesOwn.never (by rfl) (pi_range1 (by rfl) T.n_range (pa_cons pe_int pa_nil)) (pg_name (i := 4) sc_l_fresh.nd rfl (by first | exact Or.inl rfl | exact Or.inr rfl))
 (pss_one (ps_if (pt_cmpR (u_in (K := K) rfl) (pv 2) (pv 1) (by with_unfolding_all rfl))
 (pss_one (ps_set (i := 2) sc_l_fresh.nd rfl (by first | exact Or.inl rfl | exact Or.inr rfl) (pe_op op_add_str (pe_op op_add_str pe_str (pe_ix (u_ix (K := K) rfl) (pv 3) (pe_op op_fdiv (pv 4) pe_int) (fun _ _ => rfl))) (pe_ix (u_ix (K := K) rfl) (pv 3) (pe_op op_mod (pv 4) pe_int) (fun _ _ => rfl)))))
 pss_nil)))
 (pss_one (ps_ret (pv 2)))))), ?_⟩
    walk_at "begin"
    refine ⟨p, n, rfl, by omega, hp, fun H1 z k1 p1 nz => ?_⟩
    walk_at "go"
    refine rd_rngJ (by decide) (by decide) ?_
    have ht1 : H1 t = some (.lst (ts.map V.str)) := k1 _ _ ntp ht
    refine for_R (fun i σ G => ∃ (y : Str) (v4 : Option V), σ = [some (.ref p), some (.ref t), some (.str y), some (.str letters), v4] ∧ G = H1 ∧ isName y = true ∧ (y ∉ ts ∨ ∀ j, j < i → cand j ∈ ts)) ⟨z, none, rfl, rfl, nz, .inr fun j hj => absurd hj (Nat.not_lt_zero _)⟩ ?_ ?_
    · rintro i σ G hi ⟨y, v4, rfl, rfl, ny, hy⟩
      replace hi : i < 260 := hi
      rw [Int.zero_add]
      walk_at "go"
      refine rd_inStrs ht1 ?_
      walk_at "go"
      by_cases hin : y ∈ ts
      · rw [decide_eq_true hin]
        walk_at "go"
        have all : ∀ j, j < i → cand j ∈ ts := hy.resolve_left fun z => z hin
        obtain ⟨c1, e1, _, f1⟩ := letters_at (d := (i : Int) / 26) (by omega) (by omega)
        refine rd_ixS (by decide +kernel) e1 ?_
        refine ⟨_, _, rfl, rfl, ?_, ?_⟩
        · show (Str.ofString "z").length + 1 ≤ sizeLine
          decide +kernel
        walk_at "go"
        obtain ⟨c2, e2, _, f2⟩ := letters_at (d := (i : Int) % 26) (by omega) (by omega)
        refine rd_ixS (by decide +kernel) e2 ?_
        refine ⟨_, _, rfl, rfl, ?_, ?_⟩
        · have e : ∀ c : Nat, (Str.ofString "z" ++ (⟨#[c]⟩ : Str)).length = 2 := fun c => by
            show ((Str.ofString "z").cps ++ #[c]).size = 2
            rw [Array.size_append]
            show (Str.ofString "z").cps.size + 1 = 2
            decide +kernel
          rw [e]
          show 2 + 1 ≤ sizeLine
          decide +kernel
        walk_at "go"
        have ec : Str.ofString "z" ++ ⟨#[c1]⟩ ++ ⟨#[c2]⟩ = cand i := by
          unfold cand
          have g1 : letters.cps.toList.getD (i / 26) 0 = c1 := by
            have : ((i : Int) / 26).toNat = i / 26 := by omega
            rw [this] at f1
            rw [List.getD_eq_getElem?_getD, f1]
            rfl
          have g2 : letters.cps.toList.getD (i % 26) 0 = c2 := by
            have : ((i : Int) % 26).toNat = i % 26 := by omega
            rw [this] at f2
            rw [List.getD_eq_getElem?_getD, f2]
            rfl
          rw [g1, g2]
        rw [ec]
        refine ⟨cand i, _, rfl, rfl, cand_name i hi, ?_⟩
        by_cases hc : cand i ∈ ts
        · refine .inr fun j hj => ?_
          by_cases e : j = i
          · rw [e]; exact hc
          · exact all j (by omega)
        · exact .inl hc
      · rw [decide_eq_false hin]
        walk_at "go"
        exact ⟨y, _, rfl, rfl, ny, .inl hin⟩
    · rintro σ G ⟨y, v4, rfl, rfl, ny, hy⟩
      walk_at "go"
      exact k _ y k1 p1 ny (hy.resolve_right (cand_out hts))
theorem ok_l_pairs (T : Tx K mg) : FO P w K mg base 4 ("_law_pairs", none) pr_l_pairs spPairs := by
  refine ok0 T.f_l_pairs.fn sc_l_pairs (fun vs H Q E h => ?_) (fun cdv A outer s H vs Q E hr h => ?_)
  · obtain ⟨p, n, rfl, _⟩ := h
    rfl
  · obtain ⟨p, n, rfl, hn, hp, k⟩ := h
    refine ⟨_, (pss_cons (ps_set (i := 1) sc_l_pairs.nd rfl (by first | exact Or.inl rfl | exact Or.inr rfl) (pe_lst pa_nil))
 (pss_cons (ps_for PassesOwn.never (by rfl) (pi_range1 (by rfl) T.n_range (pa_cons (pe_call (ok_l_digit T) (hr.mono (by decide)) (by rfl) T.f_l_digit.mg T.f_l_digit.fn.kp T.f_l_digit.bi .nil pass0 (pa_cons (pv 0) (pa_cons pe_int pa_nil))) pa_nil)) (pg_name (i := 2) sc_l_pairs.nd rfl (by first | exact Or.inl rfl | exact Or.inr rfl))
 (pss_cons (ps_set (i := 3) sc_l_pairs.nd rfl (by first | exact Or.inl rfl | exact Or.inr rfl) (pe_op op_cat (pe_lst (pa_cons pe_str pa_nil)) (pe_lc (own := [("_law_name_here", 4), ("_law_above", 5)]) (by rfl) sc_l_pairs.nd (u_ilist (K := K) rfl (pv 1)) (blkOk_by (N := nm_l_pairs) (sc := defScope s_l_pairs) (own := [("_law_name_here", 4), ("_law_above", 5)]) (by decide +kernel)) (fun _ _ _ _ _ => (u_gtup (K := K) (n := 2) rfl (by rfl) (pgs_cons (pg_name (i := 4) sc_l_pairs.nd rfl (by first | exact Or.inl rfl | exact Or.inr rfl)) (pgs_cons (pg_name (i := 5) sc_l_pairs.nd rfl (by first | exact Or.inl rfl | exact Or.inr rfl)) pgs_nil)))) (fun _ _ _ _ _ => pts_nil) (fun _ _ _ _ _ => (pv 4)))))
 (pss_cons (ps_set (i := 4) sc_l_pairs.nd rfl (by first | exact Or.inl rfl | exact Or.inr rfl) (pe_call (ok_l_fresh T) (hr.mono (by decide)) (by rfl) T.f_l_fresh.mg T.f_l_fresh.fn.kp T.f_l_fresh.bi .nil pass0 (pa_cons (pv 0) (pa_cons (pe_op op_cat (pe_lst (pa_cons pe_str pa_nil)) (pv 3)) pa_nil))))
 (pss_one (ps_expr (pe_bm PySem.F.plainAttrs_list PySem.F.slot_list_append PySem.F.type_list_append mt_append (pv 1) (pa_cons (pe_tup (pa_cons (pv 4) (pa_cons (pe_ix (u_ix (K := K) rfl) (pv 3) (pe_call (ok_l_digit T) (hr.mono (by decide)) (by rfl) T.f_l_digit.mg T.f_l_digit.fn.kp T.f_l_digit.bi .nil pass0 (pa_cons (pv 0) (pa_cons (pe_callB (u_len (K := K) rfl) (by rfl) T.n_len (by decide +kernel) (pa_cons (pv 3) pa_nil)) pa_nil))) (fun _ _ => rfl)) pa_nil))) pa_nil)))))))
 (pss_one (ps_ret (pv 1))))), ?_⟩
    walk_at "begin"
    intro r hr0
    have nrp := hp.ne hr0
    walk_at "go"
    refine rd_digit (by decide) (by decide) (by omega) (hp.mut nrp) fun H1 d1 k1 p1 d10 d11 => ?_
    walk_at "go"
    refine rd_rngJ (by omega) (by omega) ?_
    have er : H1 r = some (.lst []) := k1 _ _ nrp upd_same
    have kH : Keep p H H1 := (Keep.same (same_new hr0)).trans k1
    refine for_R (fun i σ G => ∃ (ps : Pairs) (v2 v3 v4 v5 : Option V), σ = [some (.ref p), some (.ref r), v2, v3, v4, v5] ∧ PrsL G r ps ∧ Kok ps ∧ ps.length ≤ i ∧ (∀ q ∈ ps, isName q.2 = true) ∧ PotAt (n + 1 + 50 * i) G p ∧ Keep p H G)
      ⟨[], none, none, none, none, rfl, ⟨[], er, rfl, by simp⟩, rfl, Nat.le_refl _, by simp, p1.mono (by omega), kH⟩ ?_ ?_
    · rintro i σ G hi ⟨ps, v2, v3, v4, v5, rfl, hps, hk, hlen, hn2, hp', hK⟩
      have hi' : (i : Int) < d1 := by omega
      have hps' := hps
      obtain ⟨as, ea, la, ha⟩ := hps'
      walk_at "go"
      intro l0 hl0
      walk_at "go"
      have nl0 := hp'.ne hl0
      have sA : Same G (upd G l0 (.lst [V.str "fault"])) := same_new hl0
      refine rd_ilistJ (SqL.of (sA _ _ ea)) ?_
      refine lc_names (hps.same sA) (by omega) (fun _ _ => rfl) (fun _ _ => rfl) fun D G1 hD s1 eD => ?_
      refine rd_cat (s1 _ _ upd_same) eD (by simp; omega) fun l1 hl1 => ?_
      walk_at "go"
      intro l2 hl2
      walk_at "go"
      have s2 : Same G1 (upd G1 l1 (.lst ([V.str "fault"] ++ (ps.map (·.1)).map V.str))) := same_new hl1
      have s3 := s2.trans (same_new (o := .lst [V.str "sheaf"]) hl2)
      refine rd_cat upd_same (upd_old hl2 upd_same) (by simp; omega) fun l3 hl3 => ?_
      walk_at "go"
      have s4 := (sA.trans s1).trans (s3.trans (same_new (o := .lst ([V.str "sheaf"] ++ ([V.str "fault"] ++ (ps.map (·.1)).map V.str))) hl3))
      have pp := hp'.same s4
      have nl1 := (hp'.same (sA.trans s1)).ne hl1
      have nl3 := (hp'.same ((sA.trans s1).trans s3)).ne hl3
      refine ⟨p, l3, _, ("sheaf" : Str) :: ("fault" : Str) :: ps.map (·.1), rfl, by omega, pp, nl3, upd_same, by simp; omega, fun G2 z k2 p2 nz hz => ?_⟩
      walk_at "go"
      have e1 : G2 l1 = some (.lst ((("fault" : Str) :: ps.map (·.1)).map V.str)) := k2 _ _ nl1 (upd_old hl3 (upd_old hl2 upd_same))
      refine rd_bmL (((Keep.same s4).trans k2) _ _ nrp ea) ?_
      walk_at "go"
      refine rd_lenL (SqL.of e1) ?_
      walk_at "go"
      refine rd_digit (by rw [List.length_map, List.length_cons, List.length_map]; omega) (by rw [List.length_map, List.length_cons, List.length_map]; omega) (by omega) p2 fun G3 d3 k3 p3 d30 d31 => ?_
      have e2 : G3 l1 = some (.lst ((("fault" : Str) :: ps.map (·.1)).map V.str)) := k3 _ _ nl1 e1
      obtain ⟨u, hu, _, eu⟩ := atI_map (f := V.str) (xs := ("fault" : Str) :: ps.map (·.1)) d30 (by rw [List.length_map] at d31; exact d31)
      refine rd_ixL e2 eu ?_
      walk_at "go"
      intro t ht
      walk_at "go"
      have kA : Keep p G G3 := (Keep.same s4).trans (k2.trans k3)
      have hr3 := kA _ _ nrp ea
      refine rd_append (upd_old ht hr3) (by rw [List.length_map, la]; omega) ?_
      have nt := p3.ne ht
      obtain ⟨xs, exs⟩ := hp'.at
      refine ⟨ps ++ [(z, u)], _, _, _, _, rfl, ?_, ?_, by simp; omega, ?_, ((p3.mut nt).mut nrp).mono (by omega), ?_⟩
      · refine PrsL.snoc (upd_old ht hr3) la (fun i q hq => ?_) upd_same
        obtain ⟨c, f1, f2⟩ := ha i q hq
        exact ⟨c, f1, upd_old ht (kA _ _ (ne_of f2 exs (by intro z; cases z)) f2)⟩
      · have hzk : z ∉ kinds ps := fun hz2 => hz (by
          unfold kinds at hz2
          rcases List.mem_cons.mp hz2 with h | h
          · rw [h]; exact List.mem_cons_of_mem _ (List.mem_cons_self ..)
          · rcases List.mem_cons.mp h with h | h
            · rw [h]; exact List.mem_cons_self ..
            · exact List.mem_cons_of_mem _ (List.mem_cons_of_mem _ h))
        have uu : isName u = true ∧ u ≠ "sheaf" ∧ u ∈ kinds ps := by
          rcases List.mem_cons.mp hu with rfl | h
          · exact ⟨name_fault, by decide +kernel, List.mem_cons_self ..⟩
          · obtain ⟨q, hq, rfl⟩ := List.mem_map.mp h
            exact ⟨(hk.names q hq).1, (hk.names q hq).2, List.mem_cons_of_mem _ (List.mem_cons_of_mem _ h)⟩
        exact hk.snoc nz hzk uu.1 uu.2.1 uu.2.2
      · intro q hq
        rcases List.mem_append.mp hq with h | h
        · exact hn2 q h
        · rw [List.mem_singleton.mp h]
          rcases List.mem_cons.mp hu with rfl | h
          · exact name_fault
          · obtain ⟨q2, hq2, rfl⟩ := List.mem_map.mp h
            exact (hk.names q2 hq2).1
      · exact ((hK.trans kA).trans (.same (same_new ht))).mut hr0
    · rintro σ G ⟨ps, v2, v3, v4, v5, rfl, hps, hk, hlen, hn2, hp', hK⟩
      walk_at "go"
      exact k G r ps hK (hp'.mono (by omega)) hr0 hps hk (by omega) hn2
theorem ok_l_kind (T : Tx K mg) : FO P w K mg base 2 ("_law_kind", none) pr_l_kind spKind := by
  refine ok0 T.f_l_kind.fn sc_l_kind (fun vs H Q E h => ?_) (fun cdv A outer s H vs Q E hr h => ?_)
  · obtain ⟨p, r, n, ps, rfl, _⟩ := h
    rfl
  · obtain ⟨p, r, n, ps, rfl, hn, hp, hps, nrp, hk, hz, k⟩ := h
    have hps' := hps
    obtain ⟨as, ea, la, ha⟩ := hps'
    refine ⟨_, (pss_one (ps_ret (pe_ix (u_ix (K := K) rfl) (pe_op op_cat (pe_lst (pa_cons pe_str pa_nil)) (pe_lc (own := [("_law_name_here", 2), ("_law_above", 3)]) (by rfl) sc_l_kind.nd (u_ilist (K := K) rfl (pv 1)) (blkOk_by (N := nm_l_kind) (sc := defScope s_l_kind) (own := [("_law_name_here", 2), ("_law_above", 3)]) (by decide +kernel)) (fun _ _ _ _ _ => (u_gtup (K := K) (n := 2) rfl (by rfl) (pgs_cons (pg_name (i := 2) sc_l_kind.nd rfl (by first | exact Or.inl rfl | exact Or.inr rfl)) (pgs_cons (pg_name (i := 3) sc_l_kind.nd rfl (by first | exact Or.inl rfl | exact Or.inr rfl)) pgs_nil)))) (fun _ _ _ _ _ => pts_nil) (fun _ _ _ _ _ => (pv 2)))) (pe_call (ok_l_digit T) (hr.mono (by decide)) (by rfl) T.f_l_digit.mg T.f_l_digit.fn.kp T.f_l_digit.bi .nil pass0 (pa_cons (pv 0) (pa_cons (pe_op op_add (pe_callB (u_len (K := K) rfl) (by rfl) T.n_len (by decide +kernel) (pa_cons (pv 1) pa_nil)) pe_int) pa_nil))) (fun _ _ => rfl)))), ?_⟩
    walk_at "begin"
    intro l0 hl0
    walk_at "go"
    have sA : Same H (upd H l0 (.lst [V.str "fault"])) := same_new hl0
    refine rd_ilistJ (SqL.of (sA _ _ ea)) ?_
    refine lc_names (hps.same sA) (by omega) (fun _ _ => rfl) (fun _ _ => rfl) fun D G1 hD s1 eD => ?_
    refine rd_cat (s1 _ _ upd_same) eD (by simp; omega) fun l1 hl1 => ?_
    walk_at "go"
    have s2 : Same H (upd G1 l1 (.lst ([V.str "fault"] ++ (ps.map (·.1)).map V.str))) := (sA.trans s1).trans (same_new hl1)
    have nl1 := (hp.same (sA.trans s1)).ne hl1
    refine rd_lenL (SqL.of (s2 _ _ ea)) ?_
    walk_at "go"
    refine rd_digit (by rw [List.length_map]; omega) (by rw [List.length_map]; omega) (by omega) (hp.same s2) fun G3 d3 k3 p3 d30 d31 => ?_
    have e2 : G3 l1 = some (.lst ((("fault" : Str) :: ps.map (·.1)).map V.str)) := k3 _ _ nl1 upd_same
    obtain ⟨u, hu, _, eu⟩ := atI_map (f := V.str) (xs := ("fault" : Str) :: ps.map (·.1)) d30 (by rw [List.length_map] at d31; rw [List.length_cons, List.length_map]; omega)
    refine rd_ixL e2 eu ?_
    refine k G3 u ((Keep.same s2).trans k3) p3 ?_
    have uu : isName u = true ∧ u ≠ "sheaf" ∧ u ∈ kinds ps := by
      rcases List.mem_cons.mp hu with rfl | h
      · exact ⟨name_fault, by decide +kernel, List.mem_cons_self ..⟩
      · obtain ⟨q, hq, rfl⟩ := List.mem_map.mp h
        exact ⟨(hk.names q hq).1, (hk.names q hq).2, List.mem_cons_of_mem _ (List.mem_cons_of_mem _ h)⟩
    show (isName u && decide (u ∈ kinds ps) && !decide (u = "sheaf")) = true
    rw [uu.1, decide_eq_true uu.2.2, decide_eq_false uu.2.1]
    rfl

end



set_option Elab.async false
set_option linter.all false
set_option maxRecDepth 100000
set_option maxHeartbeats 4000000
section
variable {P : Program} {w : World} {K : PySem.W.Frag} {mg : Str → Option Value} {base : Heap}
theorem ok_l_told (T : Tx K mg) : FO P w K mg base 5 ("_law_told", none) pr_l_told (spTold K) := by
  refine ok0 T.f_l_told.fn sc_l_told (fun vs H Q E h => ?_) (fun cdv A outer s H vs Q E hr h => ?_)
  · obtain ⟨L, kk, es, F, rfl, _⟩ := h
    rfl
  · obtain ⟨L, kk, es, F, rfl, hLA, hz, k⟩ := h
    have hob : ∃ (dx l : Addr), H L = some (.ins (He.ga K "Ledger") dx (fsLed kk l)) := by
      obtain ⟨l, cs, hL, _⟩ := hLA
      obtain ⟨dx, ob⟩ := hL.obj
      exact ⟨dx, l, ob⟩
    obtain ⟨dx, l, ob⟩ := hob
    refine ⟨_, (pss_cons (ps_set (i := 1) sc_l_told.nd rfl (by first | exact Or.inl rfl | exact Or.inr rfl) (pe_lst pa_nil))
 (pss_cons (ps_for PassesOwn.never (by rfl) (pi_range1 (by rfl) T.n_range (pa_cons (pe_meth0 (pv 0) T.cl_Ledger T.m_Ledger_many.me (ok_Ledger_many T) (hr.mono (by decide)) T.m_Ledger_many.bi .nil pass0) pa_nil)) (pg_name (i := 2) sc_l_told.nd rfl (by first | exact Or.inl rfl | exact Or.inr rfl))
 (pss_cons (ps_set (i := 3) sc_l_told.nd rfl (by first | exact Or.inl rfl | exact Or.inr rfl) (pe_lst (pa_cons (pe_meth (pv 0) T.cl_Ledger T.m_Ledger_kind.me (ok_Ledger_kind T) (hr.mono (by decide)) T.m_Ledger_kind.bi .nil passL (pa_cons (pv 2) pa_nil)) (pa_cons (pe_meth (pv 0) T.cl_Ledger T.m_Ledger_text.me (ok_Ledger_text T) (hr.mono (by decide)) T.m_Ledger_text.bi .nil passL (pa_cons (pv 2) pa_nil)) (pa_cons (pe_meth (pv 0) T.cl_Ledger T.m_Ledger_members.me (ok_Ledger_members T) (hr.mono (by decide)) T.m_Ledger_members.bi .nil passL (pa_cons (pv 2) pa_nil)) (pa_cons (pe_meth (pv 0) T.cl_Ledger T.m_Ledger_notes.me (ok_Ledger_notes T) (hr.mono (by decide)) T.m_Ledger_notes.bi .nil passL (pa_cons (pv 2) pa_nil)) pa_nil))))))
 (pss_one (ps_expr (pe_bm PySem.F.plainAttrs_list PySem.F.slot_list_append PySem.F.type_list_append mt_append (pv 1) (pa_cons (pe_op op_cat (pv 3) (pe_lst (pa_cons (pe_meth (pv 0) T.cl_Ledger T.m_Ledger_cause.me (ok_Ledger_cause T) (hr.mono (by decide)) T.m_Ledger_cause.bi .nil passL (pa_cons (pv 2) pa_nil)) (pa_cons (pe_meth (pv 0) T.cl_Ledger T.m_Ledger_at_work.me (ok_Ledger_at_work T) (hr.mono (by decide)) T.m_Ledger_at_work.bi .nil passL (pa_cons (pv 2) pa_nil)) pa_nil)))) pa_nil))))))
 (pss_one (ps_ret (pv 1))))), ?_⟩
    walk_at "begin"
    intro r hr0
    have s0 : Same H (upd H r (.lst [])) := same_new hr0
    walk_at "go"
    refine rd_methJ (s0 _ _ ob) (lkL_no (by decide +kernel)) ?_
    walk_at "go"
    refine ⟨L, kk, es, F, rfl, hLA.same s0, ?_⟩
    walk_at "go"
    refine rd_rngJ (by omega) (by omega) ?_
    refine for_R (fun i σ G => ∃ (vs : List V) (v2 v3 : Option V), σ = [some (.ref L), some (.ref r), v2, v3] ∧ G r = some (.lst vs) ∧ vs.length = i ∧ DpAll K (outS [r] G) vs ((es.take i).map entD) ∧ Same H G)
      ⟨[], none, none, rfl, upd_same, rfl, .nil, s0⟩ ?_ ?_
    · rintro i σ G hi ⟨vs, v2, v3, rfl, gr, lvs, hd, sG⟩
      have li : i < es.length := by omega
      obtain ⟨e, he⟩ : ∃ e, es[i]? = some e := ⟨es[i], List.getElem?_eq_getElem li⟩
      rw [Int.zero_add]
      walk_at "go"
      have any : ∀ G', Any G' (natV i) := fun _ => .inr ⟨_, .int _⟩
      refine rd_methJ (sG _ _ ob) (lkL_no (by decide +kernel)) ?_
      walk_at "go"
      refine ⟨L, kk, es, F, natV i, rfl, hLA.same sG, any _, .inl ⟨i, e, rfl, he, ?_⟩⟩
      walk_at "go"
      refine rd_methJ (sG _ _ ob) (lkL_no (by decide +kernel)) ?_
      walk_at "go"
      refine ⟨L, kk, es, F, natV i, rfl, hLA.same sG, any _, .inl ⟨i, e, rfl, he, ?_⟩⟩
      walk_at "go"
      refine rd_methJ (sG _ _ ob) (lkL_no (by decide +kernel)) ?_
      walk_at "go"
      refine ⟨L, kk, es, F, natV i, rfl, hLA.same sG, any _, .inl ⟨i, e, rfl, he, fun a ha => ?_⟩⟩
      have s1 : Same H (upd G a (.lst (e.mem.map natV))) := sG.trans (same_new ha)
      walk_at "go"
      refine rd_methJ (s1 _ _ ob) (lkL_no (by decide +kernel)) ?_
      walk_at "go"
      refine ⟨L, kk, es, F, natV i, rfl, hLA.same s1, any _, .inl ⟨i, e, rfl, he, fun b hb => ?_⟩⟩
      have s2 := s1.trans (same_new (o := .lst (e.notes.map V.str)) hb)
      walk_at "go"
      intro c hc
      have s3 := s2.trans (same_new (o := .lst [.str e.kind, .str e.text, .ref a, .ref b]) hc)
      walk_at "go"
      refine rd_bmL (upd_old hc (upd_old hb (upd_old ha gr))) ?_
      walk_at "go"
      refine rd_methJ (s3 _ _ ob) (lkL_no (by decide +kernel)) ?_
      walk_at "go"
      refine ⟨L, kk, es, F, natV i, rfl, hLA.same s3, any _, .inl ⟨i, e, rfl, he, ?_⟩⟩
      walk_at "go"
      refine rd_methJ (s3 _ _ ob) (lkL_no (by decide +kernel)) ?_
      walk_at "go"
      refine ⟨L, kk, es, F, natV i, rfl, hLA.same s3, any _, .inl ⟨i, e, rfl, he, ?_⟩⟩
      walk_at "go"
      intro d hd2
      walk_at "go"
      intro f hf
      walk_at "go"
      refine rd_append (upd_old hf (upd_old hd2 (upd_old hc (upd_old hb (upd_old ha gr))))) (by omega) ?_
      have hb0 : G b = none := Same.free (same_new ha) hb
      have hf0 : G f = none := Same.free (by walk_at "same") hf
      refine ⟨_, _, _, rfl, upd_same, by simp [lvs], ?_, same_mut (sG.trans (by walk_at "same")) hr0⟩
      rw [List.take_succ, he, List.map_append]
      exact told_step gr (by walk_at "same") ha hb0 hf0 (by walk_at "hp") (by walk_at "hp") upd_same hd
    · rintro σ G ⟨vs, v2, v3, rfl, gr, lvs, hd, sG⟩
      walk_at "go"
      rw [show ((es.length : Nat) : Int).toNat = es.length by omega, List.take_length] at hd
      exact k G r sG hr0 (.lst (SqL.of gr) (dpAll_same outS_le hd))

end



set_option Elab.async false
set_option linter.all false
set_option maxRecDepth 100000
set_option maxHeartbeats 4000000
section
variable {P : Program} {w : World} {K : PySem.W.Frag} {mg : Str → Option Value} {base : Heap}
theorem ok_l_come (T : Tx K mg) : FO P w K mg base 7 ("_law_come", none) pr_l_come (spCome12 K) := by
  refine ok0 T.f_l_come.fn sc_l_come (fun vs H Q E h => ?_) (fun cdv A outer s H vs Q E hr h => ?_)
  · obtain ⟨p, L, kk, r, E, S, ps, es, F, n, rfl, _⟩ := h
    rfl
  · obtain ⟨p, L, kk, r, E, S, ps, es, F, n, rfl, st, hk, hz, hn, hes, _, q⟩ := h
    refine ⟨_, (pss_cons (ps_set (i := 5) sc_l_come.nd rfl (by first | exact Or.inl rfl | exact Or.inr rfl) (pe_callB (u_len (K := K) rfl) (by rfl) T.n_len (by decide +kernel) (pa_cons (pv 3) pa_nil)))
 (pss_cons (ps_set (i := 6) sc_l_come.nd rfl (by first | exact Or.inl rfl | exact Or.inr rfl) (pe_call (ok_l_text T) (hr.mono (by decide)) (by rfl) T.f_l_text.mg T.f_l_text.fn.kp T.f_l_text.bi .nil pass0 (pa_cons (pv 0) pa_nil)))
 (pss_cons (ps_set (i := 7) sc_l_come.nd rfl (by first | exact Or.inl rfl | exact Or.inr rfl) (pe_lst pa_nil))
 (pss_mid (ps_if (PW.pt (pw_and (pt_cmpR op_eq (pe_call (ok_l_digit T) (hr.mono (by decide)) (by rfl) T.f_l_digit.mg T.f_l_digit.fn.kp T.f_l_digit.bi .nil pass0 (pa_cons (pv 0) (pa_cons pe_int pa_nil))) pe_int (nomark _)) (pw_and1 (pt_cmpR op_gt (pv 5) pe_int (nomark _)))))
 (pss_one (ps_setLc (i := 7) (own := [("_law_j", 8)]) (by rfl) sc_l_come.nd rfl rfl (sw_true rfl rfl rfl (by decide +kernel)) (pi_range1 (by rfl) T.n_range (pa_cons (pe_op op_add pe_int (pe_call (ok_l_digit T) (hr.mono (by decide)) (by rfl) T.f_l_digit.mg T.f_l_digit.fn.kp T.f_l_digit.bi .nil pass0 (pa_cons (pv 0) (pa_cons pe_int pa_nil)))) pa_nil)) (blkOk_by (N := nm_l_come) (sc := defScope s_l_come) (own := [("_law_j", 8)]) (by decide +kernel)) (fun _ _ _ _ _ => (pg_name (i := 8) sc_l_come.nd rfl (by first | exact Or.inl rfl | exact Or.inr rfl))) (fun _ _ _ _ _ => pts_nil) (fun _ _ _ _ _ => (pe_call (ok_l_digit T) (hr.mono (by decide)) (by rfl) T.f_l_digit.mg T.f_l_digit.fn.kp T.f_l_digit.bi .nil pass0 (pa_cons (pv 0) (pa_cons (pv 5) pa_nil))))))
 pss_nil)
 (pss_cons (ps_set (i := 9) sc_l_come.nd rfl (by first | exact Or.inl rfl | exact Or.inr rfl) (pe_callB (u_sum (K := K) rfl rfl) (by rfl) T.n_sum (by decide +kernel) (pa_cons (pe_lc (own := [("_law_j", 8)]) (by rfl) sc_l_come.nd (u_ilist (K := K) rfl (pv 7)) (blkOk_by (N := nm_l_come) (sc := defScope s_l_come) (own := [("_law_j", 8)]) (by decide +kernel)) (fun _ _ _ _ _ => (pg_name (i := 8) sc_l_come.nd rfl (by first | exact Or.inl rfl | exact Or.inr rfl))) (fun _ _ _ _ _ => pts_nil) (fun _ _ _ _ _ => (pe_ix (u_ix (K := K) rfl) (pe_ix (u_ix (K := K) rfl) (pv 4) (pv 8) (fun _ _ => rfl)) pe_int (fun _ _ => rfl)))) pa_nil)))
 (pss_cons (ps_set (i := 10) sc_l_come.nd rfl (by first | exact Or.inl rfl | exact Or.inr rfl) (pe_callB (u_maxL (K := K) rfl rfl) (by rfl) T.n_max (by decide +kernel) (pa_cons (pe_op op_cat (pe_lst (pa_cons pe_int pa_nil)) (pe_lc (own := [("_law_j", 8)]) (by rfl) sc_l_come.nd (u_ilist (K := K) rfl (pv 7)) (blkOk_by (N := nm_l_come) (sc := defScope s_l_come) (own := [("_law_j", 8)]) (by decide +kernel)) (fun _ _ _ _ _ => (pg_name (i := 8) sc_l_come.nd rfl (by first | exact Or.inl rfl | exact Or.inr rfl))) (fun _ _ _ _ _ => pts_nil) (fun _ _ _ _ _ => (pe_op op_add (pe_ix (u_ix (K := K) rfl) (pe_ix (u_ix (K := K) rfl) (pv 4) (pv 8) (fun _ _ => rfl)) pe_int (fun _ _ => rfl)) pe_int)))) pa_nil)))
 (pss_mid (ps_if (PW.pt (pw_or (pt_cmpR op_gt (pv 9) pe_int (nomark _)) (pw_or1 (pt_cmpR op_gt (pv 10) pe_int (nomark _)))))
 (pss_one (ps_set (i := 7) sc_l_come.nd rfl (by first | exact Or.inl rfl | exact Or.inr rfl) (pe_lst pa_nil)))
 pss_nil)
 (pss_cons (ps_expr (pe_bm PySem.F.plainAttrs_list PySem.F.slot_list_append PySem.F.type_list_append mt_append (pv 4) (pa_cons (pe_ix (u_ix (K := K) rfl) (pe_lst (pa_cons (pe_tup (pa_cons pe_int (pa_cons pe_int pa_nil))) (pa_cons (pe_tup (pa_cons (pv 9) (pa_cons (pv 10) pa_nil))) pa_nil))) (pe_callTy u_int (by rfl) T.n_int (by decide +kernel) (pa_cons (pe_cmpR (u_neD (K := K) rfl hr.units) (pv 7) (pe_lst pa_nil) (nomark _)) pa_nil)) (fun _ _ => rfl)) pa_nil)))
 (pss_cons (ps_if (pt_cmpR (u_eqD (K := K) rfl hr.units) (pv 7) (pe_lst pa_nil) (nomark _))
 (pss_cons (ps_set (i := 11) sc_l_come.nd rfl (by first | exact Or.inl rfl | exact Or.inr rfl) (pe_call (ok_l_kind T) (hr.mono (by decide)) (by rfl) T.f_l_kind.mg T.f_l_kind.fn.kp T.f_l_kind.bi .nil pass0 (pa_cons (pv 0) (pa_cons (pv 2) pa_nil))))
 (pss_cons (ps_set (i := 12) sc_l_come.nd rfl (by first | exact Or.inl rfl | exact Or.inr rfl) (pe_meth (pv 1) T.cl_Ledger T.m_Ledger_plain.me (ok_Ledger_plain T) (hr.mono (by decide)) T.m_Ledger_plain.bi .nil passL (pa_cons (pv 11) (pa_cons (pv 6) pa_nil))))
 (pss_cons (ps_expr (pe_bm PySem.F.plainAttrs_list PySem.F.slot_list_append PySem.F.type_list_append mt_append (pv 3) (pa_cons (pe_lst (pa_cons (pv 11) (pa_cons (pv 6) (pa_cons (pe_lst pa_nil) (pa_cons (pe_lst pa_nil) (pa_cons pe_non (pa_cons pe_non pa_nil))))))) pa_nil)))
 (pss_one (ps_ret (pe_cmpR op_eq (pe_callB u_reprI (by rfl) T.n_repr (by decide +kernel) (pa_cons (pv 12) pa_nil)) (pe_callTy u_strI (by rfl) T.n_str (by decide +kernel) (pa_cons (pv 5) pa_nil)) (nomark _)))))))
 pss_nil)
 (pss_cons (ps_set (i := 13) sc_l_come.nd rfl (by first | exact Or.inl rfl | exact Or.inr rfl) (pe_callTy (u_listOf (K := K) rfl) (by rfl) T.n_list (by decide +kernel) (pa_cons (pv 7) pa_nil)))
 (pss_cons (ps_set (i := 12) sc_l_come.nd rfl (by first | exact Or.inl rfl | exact Or.inr rfl) (pe_meth (pv 1) T.cl_Ledger T.m_Ledger_sheaf.me (ok_Ledger_sheaf T) (hr.mono (by decide)) T.m_Ledger_sheaf.bi .nil passL (pa_cons (pv 6) (pa_cons (pv 13) pa_nil))))
 (pss_cons (ps_expr (pe_bm PySem.F.plainAttrs_list PySem.F.slot_list_append PySem.F.type_list_append mt_append (pv 3) (pa_cons (pe_lst (pa_cons pe_str (pa_cons (pv 6) (pa_cons (pv 7) (pa_cons (pe_lst pa_nil) (pa_cons pe_non (pa_cons pe_non pa_nil))))))) pa_nil)))
 (pss_cons (ps_if (pt_cmpR (u_neD (K := K) rfl hr.units) (pv 13) (pv 7) (nomark _))
 (pss_one (ps_ret pe_bl))
 pss_nil)
 (pss_cons (ps_expr (pe_bm PySem.F.plainAttrs_list PySem.F.slot_list_append PySem.F.type_list_append mt_append (pv 13) (pa_cons pe_int pa_nil)))
 (pss_one (ps_ret (pe_cmpR op_eq (pe_callB u_reprI (by rfl) T.n_repr (by decide +kernel) (pa_cons (pv 12) pa_nil)) (pe_callTy u_strI (by rfl) T.n_str (by decide +kernel) (pa_cons (pv 5) pa_nil)) (nomark _)))))))))))))))))), ?_⟩
    obtain ⟨evs, eE, dE⟩ := st.ent
    have lE : evs.length = es.length := by
      have := FS.DpAll.length dE
      rw [List.length_map] at this
      exact this
    walk_at "begin"
    refine rd_lenL (SqL.of eE) ?_
    walk_at "go"
    refine ⟨p, n, rfl, by omega, st.pot, fun H1 z k1 p1 tz => ?_⟩
    walk_at "go"
    intro m hm
    have nm := p1.ne hm
    walk_at "go"
    refine rd_mid (fun σ G => ∃ (l : Addr) (ms : List Nat) (v8 : Option V), σ = [some (.ref p), some (.ref L), some (.ref r), some (.ref E), some (.ref S), some (natV es.length), some (.str z), some (.ref l), v8, none, none, none, none, none] ∧
      PotAt (n + 200) G p ∧ Keep p H G ∧ H l = none ∧ l ≠ p ∧ G l = some (.lst (ms.map natV)) ∧ ms.length ≤ 6 ∧ ∀ m ∈ ms, m < es.length) ?_ ?_
    · walk_at "go"
      refine rd_digit (by decide) (by decide) (by omega) (p1.mut nm) fun H2 d2 k2 p2 d20 d21 => ?_
      walk_at "go"
      have kA : Keep p H H2 := (k1.trans (.same (same_new hm))).trans k2
      have em : H2 m = some (.lst (([] : List Nat).map natV)) := k2 _ _ nm upd_same
      have hm0 : H m = none := k1.back nm hm
      have eL : V.int (evs.length : Nat) = natV es.length := by rw [lE]; rfl
      have leave : ∀ (v8 : Option V) (G : Hp) (l : Addr) (ms : List Nat), PotAt (n + 200) G p → Keep p H G → H l = none → l ≠ p → G l = some (.lst (ms.map natV)) → ms.length ≤ 6 → (∀ m ∈ ms, m < es.length) →
          ∃ (l' : Addr) (ms : List Nat) (v8' : Option V), [some (V.ref p), some (V.ref L), some (V.ref r), some (V.ref E), some (V.ref S), some (V.int (evs.length : Nat)), some (V.str z), some (V.ref l), v8, none, none, none, none, none] = [some (V.ref p), some (.ref L), some (.ref r), some (.ref E), some (.ref S), some (natV es.length), some (.str z), some (.ref l'), v8', none, none, none, none, none] ∧
      PotAt (n + 200) G p ∧ Keep p H G ∧ H l' = none ∧ l' ≠ p ∧ G l' = some (.lst (ms.map natV)) ∧ ms.length ≤ 6 ∧ ∀ m ∈ ms, m < es.length :=
        fun v8 G l ms a1 a2 a3 a4 a5 a6 a7 => ⟨l, ms, v8, by rw [eL], a1, a2, a3, a4, a5, a6, a7⟩
      refine ite2 (fun h0 => ?_) (fun h0 => ?_)
      · walk_at "go"
        refine ite2 (fun h1 => ?_) (fun h1 => ?_)
        · have lpos : (0 : Int) < (evs.length : Nat) := of_decide_eq_true h1
          walk_at "go"
          refine rd_digit (by decide) (by decide) (by omega) p2 fun H3 d3 k3 p3 d30 d31 => ?_
          walk_at "go"
          refine rd_rngJ (by omega) (by omega) ?_
          refine lc_R (fun D i G => ∃ ms : List Nat, ms.length = i ∧ (∀ m ∈ ms, m < es.length) ∧ G D = some (.lst (ms.map natV)) ∧ PotAt (n + 100 + 1 + 1 + i) G p ∧ Keep p H G) (fun D hD => ?_) ?_ ?_
          · have hDp := p3.ne hD
            exact ⟨[], rfl, by simp, upd_same, (p3.mut hDp).mono (by omega), (kA.trans k3).mut ((kA.trans k3).back hDp hD)⟩
          · rintro D i G hD hi ⟨ms, hc, hs, eD, hp', hK⟩
            have hDp := p3.ne hD
            walk_at "go"
            refine ⟨rfl, ?_⟩
            walk_at "go"
            refine rd_digit (by omega) (by omega) (by omega) hp' fun H4 d4 k4 p4 d40 d41 => ?_
            refine ⟨_, k4 _ _ hDp eD, ?_, ?_⟩
            · rw [List.length_map]
              exact Nat.lt_of_lt_of_le (show ms.length < 1000 by omega) (by decide)
            · refine ⟨ms ++ [d4.toNat], by simp [hc], ?_, ?_, (p4.mut hDp).mono (by omega), (hK.trans k4).mut ((kA.trans k3).back hDp hD)⟩
              · intro x hx
                rcases List.mem_append.mp hx with h | h
                · exact hs x h
                · rw [List.mem_singleton.mp h]
                  omega
              · rw [upd_same, List.map_append]
                show _ = some (HO.lst (_ ++ [V.int ((d4.toNat : Nat) : Int)]))
                rw [Int.toNat_of_nonneg d40]
          · rintro D G hD ⟨ms, hc, hs, eD, hp', hK⟩
            walk_at "go"
            exact leave _ _ _ _ (hp'.mono (by omega)) hK ((kA.trans k3).back (p3.ne hD) hD) (p3.ne hD) eD (by omega) hs
        · walk_at "go"
          exact leave _ _ _ _ (p2.mono (by omega)) kA hm0 nm em (by simp) (by simp)
      · walk_at "go"
        exact leave _ _ _ _ (p2.mono (by omega)) kA hm0 nm em (by simp) (by simp)
    · rintro σ G ⟨l, ms, v8, rfl, pG, kG, hl, nl, el, z6, hms⟩
      have st1 : S12 K G p L kk r E S ps es F (n + 200) := st.keep kG pG
      obtain ⟨ts, eS, lS, hS⟩ := st1.siz
      have atS : ∀ (G' : Hp), Same G G' → ∀ m ∈ ms, ∃ (t : Addr) (a b : Int), atI (ts.map V.ref) (m : Int) = some (.ref t) ∧ G' t = some (.tup [.int a, .int b]) := fun G' s m hm => by
        obtain ⟨t, ht, _, e⟩ := atI_map (f := V.ref) (xs := ts) (k := (m : Int)) (by omega) (by have := hms m hm; omega)
        obtain ⟨a, b, eab⟩ := hS t ht
        exact ⟨t, a, b, e, s _ _ (outS_le _ _ eab)⟩
      walk_at "go"
      refine rd_ilistJ (SqL.of el) ?_
      refine lc_L (xs := ms.map natV) (fun D i G' => ∃ ns : List Int, G' D = some (.lst (ns.map V.int)) ∧ ns.length = i ∧ Same G G') (fun D hD => ⟨[], upd_same, rfl, same_new hD⟩) (fun D i G' hD _ hP => ?_) ?_ ?_
      · obtain ⟨_, _, _, s⟩ := hP
        exact SqL.of (s _ _ el)
      · rintro D i x G' hD hi ⟨ns, eD, ln, s⟩
        have hi2 := hi
        rw [List.getElem?_map] at hi2
        obtain ⟨mm, hmm, rfl⟩ := Option.map_eq_some_iff.mp hi2
        have mem : mm ∈ ms := List.mem_of_getElem? hmm
        have li : i < ms.length := (List.getElem?_eq_some_iff.mp hmm).1
        obtain ⟨t, a, b, e1, e2⟩ := atS G' s mm mem
        walk_at "go"
        refine ⟨rfl, ?_⟩
        walk_at "go"
        refine rd_ixL (s _ _ eS) e1 ?_
        walk_at "go"
        refine ⟨_, eD, ?_, ns ++ [a], ?_, by simp [ln], same_mut s hD⟩
        · rw [List.length_map]
          exact Nat.lt_of_lt_of_le (show ns.length < 1000 by omega) (by decide)
        · rw [upd_same, List.map_append]
          rfl
      rintro D1 G1 hD1 ⟨ns1, eD1, ln1, s1⟩
      walk_at "go"
      refine ⟨D1, ns1, rfl, SqL.of eD1, ?_⟩
      walk_at "go"
      intro l0 hl0
      have s2 : Same G (upd G1 l0 (.lst [V.int 0])) := s1.trans (same_new hl0)
      walk_at "go"
      refine rd_ilistJ (SqL.of (s2 _ _ el)) ?_
      refine lc_L (xs := ms.map natV) (fun D i G' => ∃ ns : List Int, G' D = some (.lst (ns.map V.int)) ∧ ns.length = i ∧ Same (upd G1 l0 (.lst [V.int 0])) G') (fun D hD => ⟨[], upd_same, rfl, same_new hD⟩) (fun D i G' hD _ hP => ?_) ?_ ?_
      · obtain ⟨_, _, _, s⟩ := hP
        exact SqL.of (s _ _ (s2 _ _ el))
      · rintro D i x G' hD hi ⟨ns, eD, ln, s⟩
        have hi2 := hi
        rw [List.getElem?_map] at hi2
        obtain ⟨mm, hmm, rfl⟩ := Option.map_eq_some_iff.mp hi2
        have mem : mm ∈ ms := List.mem_of_getElem? hmm
        have li : i < ms.length := (List.getElem?_eq_some_iff.mp hmm).1
        obtain ⟨t, a, b, e1, e2⟩ := atS G' (s2.trans s) mm mem
        walk_at "go"
        refine ⟨rfl, ?_⟩
        walk_at "go"
        refine rd_ixL (s _ _ (s2 _ _ eS)) e1 ?_
        walk_at "go"
        refine ⟨_, eD, ?_, ns ++ [b + 1], ?_, by simp [ln], same_mut s hD⟩
        · rw [List.length_map]
          exact Nat.lt_of_lt_of_le (show ns.length < 1000 by omega) (by decide)
        · rw [upd_same, List.map_append]
          rfl
      rintro D2 G2 hD2 ⟨ns2, eD2, ln2, s3⟩
      rw [List.length_map] at ln2
      refine rd_cat (s3 _ _ upd_same) eD2 (by simp; omega) fun l1 hl1 => ?_
      walk_at "go"
      refine ⟨l1, 0 :: ns2, rfl, SqL.of upd_same, by simp, fun mx _ _ => ?_⟩
      have s4 : Same G (upd G2 l1 (.lst ([V.int 0] ++ ns2.map V.int))) := (s2.trans s3).trans (same_new hl1)
      generalize upd G2 l1 (.lst ([V.int 0] ++ ns2.map V.int)) = G3 at s4
      walk_at "go"
      refine rd_mid (fun σ G => ∃ (l : Addr) (ms : List Nat) (v8 : Option V) (mn mx : Int), σ = [some (.ref p), some (.ref L), some (.ref r), some (.ref E), some (.ref S), some (natV es.length), some (.str z), some (.ref l), v8, some (.int mn), some (.int mx), none, none, none] ∧
        PotAt (n + 200) G p ∧ Keep p H G ∧ H l = none ∧ l ≠ p ∧ G l = some (.lst (ms.map natV)) ∧ ms.length ≤ 6 ∧ ∀ m ∈ ms, m < es.length) ?_ ?_
      · walk_at "go"
        refine ite2 (fun h0 => ?_) (fun h0 => ?_)
        · walk_at "go"
          intro l2 hl2
          have nl2 := (pG.same s4).ne hl2
          walk_at "go"
          exact ⟨l2, [], v8, _, _, rfl, pG.same (s4.trans (same_new hl2)), kG.trans (.same (s4.trans (same_new hl2))), kG.back nl2 (Same.free s4 hl2), nl2, upd_same, by simp, by simp⟩
        · walk_at "go"
          refine ite2 (fun h0 => ?_) (fun h0 => ?_)
          · walk_at "go"
            intro l2 hl2
            have nl2 := (pG.same s4).ne hl2
            walk_at "go"
            exact ⟨l2, [], v8, _, _, rfl, pG.same (s4.trans (same_new hl2)), kG.trans (.same (s4.trans (same_new hl2))), kG.back nl2 (Same.free s4 hl2), nl2, upd_same, by simp, by simp⟩
          · walk_at "go"
            exact ⟨l, ms, v8, _, _, rfl, pG.same s4, kG.trans (.same s4), hl, nl, s4 _ _ el, z6, hms⟩
      · clear el nl hl kG pG hms z6 hS lS eS s4 st1 atS
        rintro σ G ⟨l, ms, v8, mn, mx, rfl, pG, kG, hl, nl, el, z6, hms⟩
        have st2 : S12 K G p L kk r E S ps es F (n + 200) := st.keep kG pG
        obtain ⟨ts, eS, lS, hS⟩ := st2.siz
        walk_at "go"
        refine rd_bmL eS ?_
        walk_at "go"
        intro a1 ha1
        walk_at "go"
        intro a2 ha2
        walk_at "go"
        intro l3 hl3
        walk_at "go"
        intro l4 hl4
        refine rd_neD (d := .list (ms.map natD)) (e := .list []) (.lst (SqL.of (by walk_at "hp")) (dp_natD _)) (.lst (SqL.of upd_same) .nil) (shaped_nats _) rfl ?_
        rw [eqv_nil]
        have sG : Same G (upd (upd (upd (upd G a1 (.tup [.int 1, .int 0])) a2 (.tup [.int mn, .int mx])) l3 (.lst [.ref a1, .ref a2])) l4 (.lst [])) := by walk_at "same"
        have ea1 : upd (upd (upd (upd G a1 (.tup [.int 1, .int 0])) a2 (.tup [.int mn, .int mx])) l3 (.lst [.ref a1, .ref a2])) l4 (.lst []) a1 = some (.tup [.int 1, .int 0]) := by walk_at "hp"
        have ea2 : upd (upd (upd (upd G a1 (.tup [.int 1, .int 0])) a2 (.tup [.int mn, .int mx])) l3 (.lst [.ref a1, .ref a2])) l4 (.lst []) a2 = some (.tup [.int mn, .int mx]) := by walk_at "hp"
        have na1 := st2.fresh ha1
        have na2 := (st2.same (same_new (o := .tup [.int 1, .int 0]) ha1)).fresh ha2
        have st3 := st2.same sG
        have eS3 := sG _ _ eS
        have eE3 := sG _ _ (kG _ _ (fun z => st.np (by rw [← z]; exact List.mem_cons_self ..)) eE)
        have el3 := sG _ _ el
        have kG3 := kG.trans (.same sG)
        have nSp : S ≠ p := fun z => st.np (by rw [← z]; exact List.mem_cons_of_mem _ (List.mem_cons_self ..))
        have nEp : E ≠ p := fun z => st.np (by rw [← z]; exact List.mem_cons_self ..)
        have nES : E ≠ S := fun z => st.nE (by rw [← z]; exact List.mem_cons_self ..)
        have nEF : E ∉ F := fun z => st.nE (List.mem_cons_of_mem _ z)
        have npF : p ∉ F := fun z => st.np (List.mem_cons_of_mem _ (List.mem_cons_of_mem _ z))
        have lg : ((es.length : Nat) : Int).natAbs.log2 < 1920 := Nat.lt_of_le_of_lt (Nat.log2_le_self _) (by omega)
        cases ms with
        | nil =>
          walk_at "go"
          generalize upd (upd (upd (upd G a1 (.tup [.int 1, .int 0])) a2 (.tup [.int mn, .int mx])) l3 (.lst [.ref a1, .ref a2])) l4 (.lst []) = Ga at *
          refine rd_append eS3 (by rw [List.length_map]; omega) ?_
          walk_at "go"
          intro l5 hl5
          have nlS : l ≠ S := fun z => st.fresh hl (by rw [z]; exact List.mem_cons_of_mem _ (List.mem_cons_of_mem _ (List.mem_cons_self ..)))
          refine rd_eqD (d := .list []) (e := .list []) (.lst (SqL.of (upd_old hl5 (upd_far nlS el3))) .nil) (.lst (SqL.of upd_same) .nil) rfl rfl ?_
          rw [eqv_nil, show ([] : List PyData).isEmpty = true from rfl]
          walk_at "go"
          have pS := st3.pot.mut (o := .lst (ts.map V.ref ++ [V.ref a1])) nSp
          have kg5 : ∀ b o, b ≠ p → b ≠ S → Ga b = some o → upd (upd Ga S (.lst (ts.map V.ref ++ [V.ref a1]))) l5 (.lst []) b = some o := fun b o _ nb e => upd_old hl5 (upd_far nb e)
          obtain ⟨_, _, prs5, nrp, _⟩ := st3.mid kg5
          refine ⟨p, r, n + 200, ps, rfl, by omega, pS.same (same_new hl5), prs5, nrp, hk, hz, fun G6 kd k6 p6 pl => ?_⟩
          have kgs : ∀ b o, b ≠ p → upd Ga S (.lst (ts.map V.ref ++ [V.ref a1])) b = some o → G6 b = some o := fun b o nb e => k6 _ _ nb (upd_old hl5 e)
          obtain ⟨led6, kin6, _, _, dx, lq, ob6⟩ := st3.mid (Gk := G6) fun b o nb nS e => kgs b o nb (upd_far nS e)
          walk_at "go"
          refine rd_methJ ob6 (lkL_no (by decide +kernel)) ?_
          walk_at "go"
          have pl' := pl
          have nkd : isName kd = true := by
            have h : (isName kd && decide (kd ∈ kinds ps) && !decide (kd = "sheaf")) = true := pl
            rw [Bool.and_eq_true, Bool.and_eq_true] at h
            exact h.1.1
          refine ⟨L, kk, ps, es, F, .str kd, .str z, some kd, some z, rfl, led6, kin6, by omega, .inl ⟨kd, rfl, rfl, isName_short nkd⟩, .inl ⟨z, rfl, rfl, by have := tz.1; omega⟩, fun f => by (rw [pl] at f; cases f), (fun _ f => by cases f), fun kd' tx e1 e2 _ => ?_⟩
          cases e1
          cases e2
          intro H2 F' k2 l2 f1 f2
          have e2E : H2 E = some (.lst evs) := k2 _ _ nEF (kgs _ _ nEp (upd_far nES eE3))
          have e2S : H2 S = some (.lst (ts.map V.ref ++ [V.ref a1])) := k2 _ _ st.nS (kgs _ _ nSp upd_same)
          obtain ⟨xs6, e6p⟩ := p6.at
          have e2p := k2 _ _ npF e6p
          walk_at "go"
          refine rd_bmL e2E ?_
          walk_at "go"
          intro ia hia
          walk_at "go"
          intro ib hib
          walk_at "go"
          intro w hw
          walk_at "go"
          refine rd_append (upd_old hw (upd_old hib (upd_old hia e2E))) (by omega) ?_
          walk_at "go"
          refine rd_strI lg ?_
          walk_at "go"
          refine rd_strI lg ?_
          walk_at "go"
          rw [decide_eq_true rfl]
          have out := fun {b : Addr} (hb : H2 b = none) => S12.out4 e2p e2E e2S l2 hb
          have s3 : Same H2 (upd (upd (upd H2 ia (.lst [])) ib (.lst [])) w (.lst [.str kd, .str z, .ref ia, .ref ib, .non, .non])) := by walk_at "same"
          have nin := out hia
          have nib := out (Same.free (same_new (o := .lst []) hia) hib)
          have nw := out (Same.free ((same_new (o := .lst []) hia).trans (same_new (o := .lst []) hib)) hw)
          refine q _ (ent0 kd z []) F' (st3.ends eE3 eS3 ea1 na1 kgs (p6.mono (by omega)) k2 l2 f1 s3 upd_same (by walk_at "hp") (by walk_at "hp") nw nin nib) tz nkd (by simp [ent0]) (by simp [ent0]) rfl rfl rfl fun b o nb e => ?_
          refine upd_far (fun z => nb (by rw [z]; exact List.mem_cons_of_mem _ (List.mem_cons_self ..))) (s3 _ _ (k2 b o (fun z => nb (List.mem_cons_of_mem _ (List.mem_cons_of_mem _ (List.mem_cons_of_mem _ z)))) ?_))
          have nbp : b ≠ p := fun z => nb (by rw [z]; exact List.mem_cons_self ..)
          exact kgs b o nbp (upd_far (fun z => nb (by rw [z]; exact List.mem_cons_of_mem _ (List.mem_cons_of_mem _ (List.mem_cons_self ..)))) (kG3 _ _ nbp e))
        | cons m0 ms =>
          walk_at "go"
          generalize upd (upd (upd (upd G a1 (.tup [.int 1, .int 0])) a2 (.tup [.int mn, .int mx])) l3 (.lst [.ref a1, .ref a2])) l4 (.lst []) = Ga at *
          refine rd_append eS3 (by rw [List.length_map]; omega) ?_
          walk_at "go"
          intro l5 hl5
          have nl4 := st.fresh hl
          have nlS : l ≠ S := fun z => nl4 (by rw [z]; exact List.mem_cons_of_mem _ (List.mem_cons_of_mem _ (List.mem_cons_self ..)))
          have nlE : l ≠ E := fun z => nl4 (by rw [z]; exact List.mem_cons_of_mem _ (List.mem_cons_self ..))
          have nlF : l ∉ F := fun z => nl4 (List.mem_cons_of_mem _ (List.mem_cons_of_mem _ (List.mem_cons_of_mem _ z)))
          have el5 : upd (upd Ga S (.lst (ts.map V.ref ++ [V.ref a2]))) l5 (.lst []) l = some (.lst ((m0 :: ms).map natV)) := upd_old hl5 (upd_far nlS el3)
          refine rd_eqD (d := .list ((m0 :: ms).map natD)) (e := .list []) (.lst (SqL.of el5) (dp_natD _)) (.lst (SqL.of upd_same) .nil) (shaped_nats _) rfl ?_
          rw [eqv_nil, show ((m0 :: ms).map natD).isEmpty = false from rfl]
          walk_at "go"
          refine rd_listL (SqL.of el5) fun h hh => ?_
          have kgs : ∀ b o, b ≠ p → upd Ga S (.lst (ts.map V.ref ++ [V.ref a2])) b = some o → upd (upd (upd Ga S (.lst (ts.map V.ref ++ [V.ref a2]))) l5 (.lst [])) h (.lst ((m0 :: ms).map natV)) b = some o := fun b o nb e => upd_old hh (upd_old hl5 e)
          have p6 := ((st3.pot.mut (o := .lst (ts.map V.ref ++ [V.ref a2])) nSp).same (same_new (o := .lst []) hl5)).same (same_new (o := .lst ((m0 :: ms).map natV)) hh)
          have e6h : upd (upd (upd Ga S (.lst (ts.map V.ref ++ [V.ref a2]))) l5 (.lst [])) h (.lst ((m0 :: ms).map natV)) h = some (.lst ((m0 :: ms).map natV)) := upd_same
          have e6l : upd (upd (upd Ga S (.lst (ts.map V.ref ++ [V.ref a2]))) l5 (.lst [])) h (.lst ((m0 :: ms).map natV)) l = some (.lst ((m0 :: ms).map natV)) := upd_old hh el5
          have nhp := ((st3.pot.mut (o := .lst (ts.map V.ref ++ [V.ref a2])) nSp).same (same_new (o := .lst []) hl5)).ne hh
          have gh : Ga h = none := by
            have a1 := Same.free (same_new (o := .lst []) hl5) hh
            by_cases e : h = S
            · rw [e, upd_same] at a1
              cases a1
            · rw [upd_ne e] at a1
              exact a1
          have nlh : l ≠ h := ne_of_none el5 hh
          have nh4 := st3.fresh gh
          generalize upd (upd (upd Ga S (.lst (ts.map V.ref ++ [V.ref a2]))) l5 (.lst [])) h (.lst ((m0 :: ms).map natV)) = G6 at *
          walk_at "go"
          obtain ⟨led6, kin6, _, _, dx, lq, ob6⟩ := st3.mid (Gk := G6) fun b o nb nS e => kgs b o nb (upd_far nS e)
          refine rd_methJ ob6 (lkL_no (by decide +kernel)) ?_
          walk_at "go"
          refine ⟨L, kk, h, es, F, .str z, some z, (m0 :: ms).map natV, rfl, led6, by omega, .inl ⟨z, rfl, rfl, by have := tz.1; omega⟩, e6h, by rw [List.length_map]; omega, fun x hx => ?_, ⟨_, dp_natD _, shaped_nats _⟩, (fun f => by cases f), (fun _ f => by cases f), (fun _ _ hx => ?_), fun tx ms' e1 e2 _ hms' => ?_⟩
          · obtain ⟨m, _, rfl⟩ := List.mem_map.mp hx
            exact .inr ⟨_, .int _⟩
          · obtain ⟨x, hx, hf⟩ := hx
            obtain ⟨m, hm, rfl⟩ := List.mem_map.mp hx
            have := hms m hm
            have ht : isF es.length (natV m) = true := decide_eq_true (by omega)
            rw [ht] at hf
            cases hf
          · cases e1
            intro H2 F' k2 l2 f1 f2
            have lms : ms'.length ≤ 6 := by
              have := congrArg List.length e2
              rw [List.length_map, List.length_map] at this
              omega
            have nhE : h ≠ E := fun z => nh4 (by rw [z]; exact List.mem_cons_of_mem _ (List.mem_cons_self ..))
            have nhF : h ∉ F := fun z => nh4 (List.mem_cons_of_mem _ (List.mem_cons_of_mem _ (List.mem_cons_of_mem _ z)))
            have e2E : H2 E = some (.lst evs) := k2 _ _ nEF (kgs _ _ nEp (upd_far nES eE3))
            have e2S : H2 S = some (.lst (ts.map V.ref ++ [V.ref a2])) := k2 _ _ st.nS (kgs _ _ nSp upd_same)
            obtain ⟨xs6, e6p⟩ := p6.at
            have e2p := k2 _ _ npF e6p
            have e2h := k2 _ _ nhF e6h
            have e2l := k2 _ _ nlF e6l
            walk_at "go"
            refine rd_bmL e2E ?_
            walk_at "go"
            intro ib hib
            walk_at "go"
            intro w hw
            walk_at "go"
            refine rd_append (upd_old hw (upd_old hib e2E)) (by omega) ?_
            walk_at "go"
            refine rd_neD (d := .list ((m0 :: ms).map natD)) (e := .list ((m0 :: ms).map natD)) (.lst (SqL.of (upd_far nhE (upd_old hw (upd_old hib e2h)))) (dp_natD _)) (.lst (SqL.of (upd_far nlE (upd_old hw (upd_old hib e2l)))) (dp_natD _)) (shaped_nats _) (shaped_nats _) ?_
            rw [eqv_nats]
            walk_at "go"
            refine rd_bmL (upd_far nhE (upd_old hw (upd_old hib e2h))) ?_
            walk_at "go"
            refine rd_append (upd_far nhE (upd_old hw (upd_old hib e2h))) (by rw [List.length_map]; omega) ?_
            walk_at "go"
            refine rd_strI lg ?_
            walk_at "go"
            refine rd_strI lg ?_
            walk_at "go"
            rw [decide_eq_true rfl]
            rw [upd_comm nhE.symm]
            generalize hO : HO.lst ((m0 :: ms).map natV ++ [V.int 0]) = O
            have nF'h : h ∉ F' := fun z => by
              rcases f1 h z with y | y
              · exact nhF y
              · rw [e6h] at y; cases y
            have nF'l : l ∉ F' := fun z => by
              rcases f1 l z with y | y
              · exact nlF y
              · rw [e6l] at y; cases y
            have nLh : L ≠ h := ne_of ob6 e6h (by intro z; cases z)
            have k2' : KeepS F (upd G6 h O) (upd H2 h O) := fun b o nb e => by
              by_cases c : b = h
              · rw [c, upd_same] at e
                rw [c, upd_same]
                exact e
              · rw [upd_ne c] at e
                rw [upd_ne c]
                exact k2 b o nb e
            have l2' := l2.mono (H' := upd H2 h O) fun b o hb e => by
              have c : b ≠ h := by
                rcases hb with hb | hb
                · rw [hb]; exact nLh
                · exact fun z => nF'h (by rw [← z]; exact hb)
              rw [upd_ne c]
              exact e
            have f1' : ∀ b ∈ F', b ∈ F ∨ upd G6 h O b = none := fun b hb => by
              rcases f1 b hb with y | y
              · exact .inl y
              · exact .inr (by rw [upd_ne (fun z => nF'h (by rw [← z]; exact hb))]; exact y)
            have nhS : h ≠ S := fun z => nh4 (by rw [z]; exact List.mem_cons_of_mem _ (List.mem_cons_of_mem _ (List.mem_cons_self ..)))
            have kgs' : ∀ b o, b ≠ p → upd Ga S (.lst (ts.map V.ref ++ [V.ref a2])) b = some o → upd G6 h O b = some o := fun b o nb e => by
              have c : b ≠ h := fun z => by
                rw [z, upd_ne nhS, gh] at e
                cases e
              rw [upd_ne c]
              exact kgs b o nb e
            have s3 : Same H2 (upd (upd H2 ib (.lst [])) w (.lst [V.str (Str.ofString "sheaf"), V.str z, V.ref l, V.ref ib, V.non, V.non])) := by walk_at "same"
            have s3' : Same (upd H2 h O) (upd (upd (upd H2 ib (.lst [])) w (.lst [V.str (Str.ofString "sheaf"), V.str z, V.ref l, V.ref ib, V.non, V.non])) h O) := fun b o e => by
              by_cases c : b = h
              · rw [c, upd_same] at e
                rw [c, upd_same]
                exact e
              · rw [upd_ne c] at e
                rw [upd_ne c]
                exact s3 b o e
            have out := fun {b : Addr} (hb : H2 b = none) => S12.out4 e2p e2E e2S l2 hb
            have nib := out hib
            have hw2 : H2 w = none := Same.free (same_new (o := .lst []) hib) hw
            have nw := out hw2
            have nlp4 : l ∉ p :: E :: S :: F' := by simp [nl, nlE, nlS, nF'l]
            have nwh : w ≠ h := (ne_of_none e2h hw2).symm
            have nibh : ib ≠ h := (ne_of_none e2h hib).symm
            refine q _ (ent0 "sheaf" z ms') F' (st3.ends eE3 eS3 ea2 na2 kgs' ((p6.mut (fun z => nhp z)).mono (by omega)) k2' l2' f1' s3' (by rw [upd_ne nwh]; exact upd_same) (by rw [upd_ne nlh]; exact (s3 _ _ e2l).trans (by rw [e2]; rfl)) (by rw [upd_ne nibh]; exact upd_old hw upd_same) nw nlp4 nib) tz (show isName "sheaf" = true by decide +kernel) lms hms' rfl rfl rfl fun b o nb e => ?_
            have nbp : b ≠ p := fun z => nb (by rw [z]; exact List.mem_cons_self ..)
            have ga := kG3 _ _ nbp e
            have nbS : b ≠ S := fun z => nb (by rw [z]; exact List.mem_cons_of_mem _ (List.mem_cons_of_mem _ (List.mem_cons_self ..)))
            exact upd_far (fun z => nb (by rw [z]; exact List.mem_cons_of_mem _ (List.mem_cons_self ..))) (s3' _ _ (k2' b o (fun z => nb (List.mem_cons_of_mem _ (List.mem_cons_of_mem _ (List.mem_cons_of_mem _ z)))) (kgs' b o nbp (upd_far nbS ga))))

end



set_option Elab.async false
set_option linter.all false
set_option maxRecDepth 100000
set_option maxHeartbeats 4000000
section
variable {P : Program} {w : World} {K : PySem.W.Frag} {mg : Str → Option Value} {base : Heap}
def spLaw (K : PySem.W.Frag) : Sp := fun vs H Q _ => ∃ (a : Addr) (ns : List Int), vs = [.ref a] ∧ SqL K H a (ns.map V.int) ∧ ns.length ≤ 63 ∧ Only H ∧ ∀ H', Q (.bl true) H'
theorem ok_law (T : Tx K mg) : GO P w K mg base 9 ("law", none) pr_law (spLaw K) := by
  refine okG T.f_law.fn sc_law (fun vs H Q E h => ?_) (fun cdv A outer s H vs Q hgd hr h => ?_)
  · obtain ⟨a, ns, rfl, _⟩ := h
    rfl
  · obtain ⟨a, ns, rfl, hl, hz, hO, k⟩ := h
    refine ⟨_, (pss_cons (ps_set (i := 1) sc_law.nd rfl (by first | exact Or.inl rfl | exact Or.inr rfl) (pe_call (ok_l_pairs T) (hr.mono (by decide)) (by rfl) T.f_l_pairs.mg T.f_l_pairs.fn.kp T.f_l_pairs.bi .nil pass0 (pa_cons (pe_call (ok_l_pot T) (hr.mono (by decide)) (by rfl) T.f_l_pot.mg T.f_l_pot.fn.kp T.f_l_pot.bi .nil pass0 (pa_cons (pv 0) (pa_cons pe_int pa_nil))) pa_nil)))
 (pss_cons (ps_set (i := 2) sc_law.nd rfl (by first | exact Or.inl rfl | exact Or.inr rfl) (pe_make T.mk_Ledger (ok_Ledger_init T) (hr.mono (by decide)) (by rfl) T.k_Ledger T.m_Ledger_init.bi .nil pass0 (pa_cons (pe_make T.mk_Kinds (ok_Kinds_init T) (hr.mono (by decide)) (by rfl) T.k_Kinds T.m_Kinds_init.bi .nil passL (pa_cons (pe_callTy (u_listOf (K := K) rfl) (by rfl) T.n_list (by decide +kernel) (pa_cons (pv 1) pa_nil)) pa_nil)) pa_nil)))
 (pss_cons (ps_set (i := 3) sc_law.nd rfl (by first | exact Or.inl rfl | exact Or.inr rfl) (pe_lst pa_nil))
 (pss_cons (ps_set (i := 4) sc_law.nd rfl (by first | exact Or.inl rfl | exact Or.inr rfl) (pe_lst pa_nil))
 (pss_cons (ps_for PassesOwn.never (by rfl) (pi_range1 (by rfl) T.n_range (pa_cons (pe_callB (u_max rfl) (by rfl) T.n_max (by decide +kernel) (pa_cons pe_int (pa_cons (pe_callB (u_min rfl) (by rfl) T.n_min (by decide +kernel) (pa_cons pe_int (pa_cons (pe_callB (u_len (K := K) rfl) (by rfl) T.n_len (by decide +kernel) (pa_cons (pv 0) pa_nil)) pa_nil))) pa_nil))) pa_nil)) (pg_name (i := 5) sc_law.nd rfl (by first | exact Or.inl rfl | exact Or.inr rfl))
 (pss_cons (ps_set (i := 6) sc_law.nd rfl (by first | exact Or.inl rfl | exact Or.inr rfl) (pe_call (ok_l_pot T) (hr.mono (by decide)) (by rfl) T.f_l_pot.mg T.f_l_pot.fn.kp T.f_l_pot.bi .nil pass0 (pa_cons (pv 0) (pa_cons (pe_op op_add (pv 5) pe_int) pa_nil))))
 (pss_cons (ps_if (PW.pt (pw_or (pt_not (pt_val (pe_call (ok_l_come T) (hr.mono (by decide)) (by rfl) T.f_l_come.mg T.f_l_come.fn.kp T.f_l_come.bi .nil pass0 (pa_cons (pv 6) (pa_cons (pv 2) (pa_cons (pv 1) (pa_cons (pv 3) (pa_cons (pv 4) pa_nil)))))))) (pw_or1 (pt_cmpR op_ne (pe_callB (u_repr (K := K) rfl hgd (room_un hr)) (by rfl) T.n_repr (by decide +kernel) (pa_cons (pe_call (ok_l_told T) (hr.mono (by decide)) (by rfl) T.f_l_told.mg T.f_l_told.fn.kp T.f_l_told.bi .nil pass0 (pa_cons (pv 2) pa_nil)) pa_nil)) (pe_callB (u_repr (K := K) rfl hgd (room_un hr)) (by rfl) T.n_repr (by decide +kernel) (pa_cons (pv 3) pa_nil)) (nomark _)))))
 (pss_one (ps_ret pe_bl))
 pss_nil)
 (pss_cons (ps_expr (pe_bm PySem.F.plainAttrs_list PySem.F.slot_list_append PySem.F.type_list_append mt_append (pe_meth (pv 2) T.cl_Ledger T.m_Ledger_members.me (ok_Ledger_members T) (hr.mono (by decide)) T.m_Ledger_members.bi .nil passL (pa_cons (pv 5) pa_nil)) (pa_cons pe_int pa_nil)))
 (pss_one (ps_expr (pe_bm PySem.F.plainAttrs_list PySem.F.slot_list_append PySem.F.type_list_append mt_append (pe_meth (pv 2) T.cl_Ledger T.m_Ledger_notes.me (ok_Ledger_notes T) (hr.mono (by decide)) T.m_Ledger_notes.bi .nil passL (pa_cons (pv 5) pa_nil)) (pa_cons pe_str pa_nil))))))))
 (pss_one (ps_ret (pe_and (pe_cmpR op_eq (pe_callB (u_repr (K := K) rfl hgd (room_un hr)) (by rfl) T.n_repr (by decide +kernel) (pa_cons (pe_call (ok_l_told T) (hr.mono (by decide)) (by rfl) T.f_l_told.mg T.f_l_told.fn.kp T.f_l_told.bi .nil pass0 (pa_cons (pv 2) pa_nil)) pa_nil)) (pe_callB (u_repr (K := K) rfl hgd (room_un hr)) (by rfl) T.n_repr (by decide +kernel) (pa_cons (pv 3) pa_nil)) (nomark _)) (pe_one (pe_cmpR op_eq (pe_meth0 (pv 2) T.cl_Ledger T.m_Ledger_many.me (ok_Ledger_many T) (hr.mono (by decide)) T.m_Ledger_many.bi .nil pass0) (pe_callB (u_len (K := K) rfl) (by rfl) T.n_len (by decide +kernel) (pa_cons (pv 3) pa_nil)) (nomark _))))))))))), ?_⟩
    walk_at "begin"
    refine ⟨a, ns, 0, rfl, hl, hz, by decide, by decide, fun H1 p s1 hp pp => ?_⟩
    have f1 := (FzL.of hl hO).same s1
    walk_at "go"
    refine ⟨p, 0, rfl, by decide, pp, fun H2 r ps k2 p2 hr0 hps hk hlen hn2 => ?_⟩
    obtain ⟨xp, exp⟩ := pp.at
    have f2 := f1.keep k2 exp
    walk_at "go"
    have hps' := hps
    obtain ⟨as, ea, la, ha⟩ := hps'
    refine rd_listL (SqL.of ea) fun l hl => ?_
    have s2 : Same H2 (upd H2 l (.lst (as.map V.ref))) := same_new hl
    walk_at "go"
    intro kk dk hkk hdk ndk
    have s3 := s2.trans ((same_new (o := .own kk) hdk).trans (same_new (p := kk) (o := .ins (He.ga K "Kinds") dk []) (by rw [upd_ne ndk.symm]; exact hkk)))
    have sps : ShortP ps := fun q hq => ⟨isName_short (hk.names q hq).1, isName_short (hn2 q hq)⟩
    refine ⟨kk, l, dk, ps.map so, rfl, upd_same, PrsL.at ⟨as, ?_, la, fun i q hq => ?_⟩ sps, by rw [List.length_map]; omega, ?_⟩
    · exact upd_far (ne_of_none (upd_same) hkk) (upd_old hdk upd_same)
    · obtain ⟨c, e1, e2⟩ := ha i q hq
      exact ⟨c, e1, s3 _ _ e2⟩
    rw [show kfold [] (ps.map so) = some ps from hk]
    intro H3 k3 kin3
    refine ⟨rfl, ?_⟩
    have hkk2 : H2 kk = none := s2.free hkk
    have s23 : ∀ b o, H2 b = some o → H3 b = some o := fun b o e => k3 b o (ne_of_none e hkk2) (s3 b o e)
    generalize upd (upd (upd H2 l (.lst (as.map V.ref))) dk (.own kk)) kk (.ins (He.ga K "Kinds") dk []) = Hx at *
    walk_at "go"
    intro L dL hL hdL ndL
    have s34 : Same H3 (upd (upd H3 dL (.own L)) L (.ins (He.ga K "Ledger") dL [])) := (same_new (o := .own L) hdL).trans (same_new (p := L) (by rw [upd_ne ndL.symm]; exact hL))
    refine ⟨L, kk, dL, rfl, upd_same, fun H4 F k4 led fF => ⟨rfl, ?_⟩⟩
    have s3b : ∀ b o, H3 b = some o → H4 b = some o := fun b o e => k4 b o (ne_of_none e hL) (s34 b o e)
    have fF3 : ∀ b ∈ F, H3 b = none := fun b hb => s34.free (fF b hb)
    walk_at "go"
    intro E hE
    walk_at "go"
    intro S hS
    walk_at "go"
    have s4 : Same H4 (upd H4 E (.lst [])) := same_new hE
    have s5 : Same H4 (upd (upd H4 E (.lst [])) S (.lst [])) := s4.trans (same_new hS)
    have hS4 : H4 S = none := s4.free hS
    have nES : E ≠ S := fun z => by rw [z, upd_same] at hS; cases hS
    have p4 : PotAt 1000 H4 p := by
      obtain ⟨a0, b0, c0, e0, r0⟩ := p2
      exact ⟨a0, b0, c0, s3b _ _ (s23 _ _ e0), by simpa using r0⟩
    obtain ⟨xp4, exp4⟩ := p4.at
    obtain ⟨xp2, exp2⟩ := p2.at
    have obL : ∃ dx l, H4 L = some (.ins (He.ga K "Ledger") dx (fsLed kk l)) := by
      obtain ⟨l, cs, hL, _⟩ := led
      obtain ⟨dx, ob⟩ := hL.obj
      exact ⟨dx, l, ob⟩
    obtain ⟨dxL, lL, obL⟩ := obL
    have ELF : L ∉ F := fun z => by
      obtain ⟨l, cs, hL', rfl⟩ := led
      have := fF L z
      rw [upd_same] at this
      cases this
    have st0 : S12 K (upd (upd H4 E (.lst [])) S (.lst [])) p L kk r E S ps [] F 1000 := by
      refine S12.init (H0 := H3) (p4.same s5) ⟨_, s23 _ _ exp2⟩ (led.same s5) ?_ ?_ ?_ ?_ kin3 (hps.same s23) ?_ ?_ (upd_old hS upd_same) upd_same
      · simp only [List.mem_cons, not_or]
        exact ⟨ne_of_none exp4 hE, ne_of_none exp4 hS4, fun z => by have := fF3 p z; rw [s23 _ _ exp2] at this; cases this⟩
      · simp only [List.mem_cons, not_or]
        exact ⟨nES, led.notin hE⟩
      · exact led.notin hS4
      · simp only [List.mem_cons, not_or]
        exact ⟨ne_of obL exp4 (by intro z; cases z), ne_of_none obL hE, ne_of_none obL hS4, ELF⟩
      · intro z
        rw [z, exp] at hr0
        cases hr0
      · intro b o nb e
        refine ⟨?_, s5 _ _ (s3b _ _ e)⟩
        simp only [List.mem_cons, not_or]
        exact ⟨ne_of_none (s3b _ _ e) hE, ne_of_none (s3b _ _ e) hS4, fun z => by have := fF3 b z; rw [e] at this; cases this⟩
    have f5 : FzL K (upd (upd H4 E (.lst [])) S (.lst [])) a (ns.map V.int) := f2.same fun b o e => s5 _ _ (s3b _ _ (s23 _ _ e))
    generalize upd (upd H4 E (.lst [])) S (.lst []) = G0 at *
    refine rd_lenL f5.sq ?_
    walk_at "go"
    refine rd_min fun m1 hm1 hm1a hm1b => ?_
    walk_at "go"
    refine rd_max fun m2 hm2 hm2a hm2b => ?_
    walk_at "go"
    have hm2' : 0 ≤ m2 ∧ m2 ≤ 24 := by rw [List.length_map] at *; omega
    refine rd_rngJ (by omega) (by omega) ?_
    refine for_R (fun i σ G => ∃ (p : Addr) (es : List Ent) (F : List Addr) (v5 v6 : Option V), σ = [some (.ref a), some (.ref r), some (.ref L), some (.ref E), some (.ref S), v5, v6] ∧ S12 K G p L kk r E S ps es F 2000 ∧ es.length = i ∧ FzL K G a (ns.map V.int) ∧ ∀ e ∈ es, EntOk e)
      ⟨p, [], F, none, none, rfl, st0.move (st0.pot.mono (by decide)) (fun _ _ _ e => e), rfl, f5, by simp⟩ ?_ ?_
    · rintro i σ G hi ⟨p', es, F', v5, v6, rfl, st, lE, fz, eok⟩
      have hi' : (i : Int) < 24 := by omega
      rw [Int.zero_add]
      walk_at "go"
      refine ⟨a, ns, _, rfl, fz.sq, hz, by omega, by omega, fun G1 p1 sG1 hp1 pp1 => ?_⟩
      walk_at "go"
      have st1 := st.repot sG1 hp1 pp1
      have fz1 := fz.same sG1
      refine ⟨p1, L, kk, r, E, S, ps, es, F', 0, rfl, st1, hk, by omega, by decide, by omega, by simp, fun G2 e F2 st2 te ke me me2 ne ce we kp => ?_⟩
      have fz2 := fz1.move fun o y e => kp _ _ (st1.plain e) e
      have eok2 : ∀ x ∈ es ++ [e], EntOk x := by
        intro x hx
        rcases List.mem_append.mp hx with h | h
        · exact eok x h
        · rw [List.mem_singleton.mp h]
          exact ⟨te.signs, isName_signs ke, ⟨by omega, fun m hm => by have := me2 m hm; omega⟩, by rw [ne]; simp, by rw [ce]; simp, by rw [we]; simp⟩
      have l2 : (es ++ [e]).length = i + 1 := by simp [lE]
      walk_at "go"
      refine ⟨L, kk, es ++ [e], F2, rfl, st2.led, by omega, fun G3 t s3' ht dt => ?_⟩
      walk_at "go"
      have sh := ents_shw eok2 (by omega)
      refine rd_repr dt sh (by decide) ?_
      walk_at "go"
      have st3 := st2.same s3'
      obtain ⟨evs, eE, dE⟩ := st3.ent
      refine rd_repr (.lst (SqL.of eE) (dpAll_same outS_le dE)) sh (by decide) ?_
      walk_at "go"
      rw [decide_eq_true rfl]
      walk_at "go"
      have l3 := st3.led
      have ob3 : ∃ dx l, G3 L = some (.ins (He.ga K "Ledger") dx (fsLed kk l)) := by
        obtain ⟨l, cs, hL, _⟩ := l3
        obtain ⟨dx, ob⟩ := hL.obj
        exact ⟨dx, l, ob⟩
      obtain ⟨dx3, l3', ob3⟩ := ob3
      have hek : (es ++ [e])[i]? = some e := by rw [← lE]; simp
      have any : ∀ G', Any G' (natV i) := fun _ => .inr ⟨_, .int _⟩
      refine rd_methJ ob3 (lkL_no (by decide +kernel)) ?_
      walk_at "go"
      refine ⟨L, kk, es ++ [e], F2, natV i, rfl, l3, any _, .inl ⟨i, e, rfl, hek, fun r1 hr1 => ?_⟩⟩
      refine rd_bmL upd_same ?_
      walk_at "go"
      refine rd_append upd_same (by rw [List.length_map]; omega) ?_
      rw [upd_upd]
      have s4' : Same G3 (upd G3 r1 (.lst (e.mem.map natV ++ [.int 0]))) := same_new hr1
      walk_at "go"
      refine rd_methJ (s4' _ _ ob3) (lkL_no (by decide +kernel)) ?_
      walk_at "go"
      refine ⟨L, kk, es ++ [e], F2, natV i, rfl, l3.same s4', any _, .inl ⟨i, e, rfl, hek, fun r2 hr2 => ?_⟩⟩
      refine rd_bmL upd_same ?_
      walk_at "go"
      refine rd_append upd_same (by rw [List.length_map, ne]; decide) ?_
      rw [upd_upd]
      have s5' := s4'.trans (same_new (o := .lst (e.notes.map V.str ++ [.str (Str.ofString "")])) hr2)
      have st4 := st3.same s5'
      exact ⟨p1, es ++ [e], F2, _, _, rfl, st4.move (st4.pot.mono (by decide)) (fun _ _ _ e => e), l2, (fz2.same s3').same s5', eok2⟩
    · rintro σ G ⟨p', es, F', v5, v6, rfl, st, lE, fz, eok⟩
      walk_at "go"
      have lE' : es.length ≤ 24 := by omega
      refine ⟨L, kk, es, F', rfl, st.led, by omega, fun G3 t s3' ht dt => ?_⟩
      walk_at "go"
      have sh := ents_shw eok (by omega)
      refine rd_repr dt sh (by decide) ?_
      walk_at "go"
      have st3 := st.same s3'
      obtain ⟨evs, eE, dE⟩ := st3.ent
      refine rd_repr (.lst (SqL.of eE) (dpAll_same outS_le dE)) sh (by decide) ?_
      walk_at "go"
      rw [decide_eq_true rfl]
      walk_at "go"
      have l3 := st3.led
      have ob3 : ∃ dx l, G3 L = some (.ins (He.ga K "Ledger") dx (fsLed kk l)) := by
        obtain ⟨l, cs, hL, _⟩ := l3
        obtain ⟨dx, ob⟩ := hL.obj
        exact ⟨dx, l, ob⟩
      obtain ⟨dx3, l3', ob3⟩ := ob3
      refine rd_methJ ob3 (lkL_no (by decide +kernel)) ?_
      walk_at "go"
      refine ⟨L, kk, es, F', rfl, l3, ?_⟩
      walk_at "go"
      refine rd_lenL (SqL.of eE) ?_
      walk_at "go"
      have lv : evs.length = es.length := by
        have := FS.DpAll.length dE
        rw [List.length_map] at this
        exact this
      rw [lv, decide_eq_true rfl]
      exact k _

end

set_option Elab.async false
set_option linter.all false
set_option maxRecDepth 100000
set_option maxHeartbeats 0
def fa : List He.Fa := [.glo "_wall", .meth "FaultError" "__init__", .glo "is_whole", .glo "is_name", .meth "Kinds" "__init__", .meth "Kinds" "names", .meth "Kinds" "is_kind", .meth "Kinds" "want_kind", .meth "Kinds" "above", .meth "Kinds" "stands_under", .meth "Entry" "__init__", .meth "Entry" "anew", .meth "Ledger" "__init__", .meth "Ledger" "kinds", .meth "Ledger" "many", .meth "Ledger" "is_fault", .meth "Ledger" "entry", .meth "Ledger" "want_all", .meth "Ledger" "come", .meth "Ledger" "plain", .meth "Ledger" "sheaf", .meth "Ledger" "like", .meth "Ledger" "kind", .meth "Ledger" "text", .meth "Ledger" "members", .meth "Ledger" "notes", .meth "Ledger" "cause", .meth "Ledger" "at_work", .meth "Ledger" "note", .meth "Ledger" "blame", .meth "Ledger" "rise", .meth "Ledger" "leaves", .meth "Ledger" "led", .meth "Ledger" "twin", .glo "_law_pot", .glo "_law_digit", .glo "_law_text", .glo "_law_name", .glo "_law_fresh", .glo "_law_pairs", .glo "_law_kind", .glo "_law_told", .glo "_law_come", .glo "law", .free "ValueError", .free "all", .free "bool", .free "int", .free "isinstance", .free "len", .free "list", .free "max", .free "min", .free "range", .free "repr", .free "str", .free "sum", .glo "FaultError", .glo "NoKind", .glo "NoText", .glo "NoFault", .glo "Empty", .glo "Kinds", .glo "Entry", .glo "Ledger", .cls "Kinds", .mkr "Kinds", .noat "Kinds" "uppers", .cls "Entry", .mkr "Entry", .noat "Entry" "its_kind", .noat "Entry" "told", .noat "Entry" "inner", .noat "Entry" "noted", .noat "Entry" "blamed", .noat "Entry" "worked", .cls "Ledger", .mkr "Ledger", .noat "Ledger" "sorts", .noat "Ledger" "entries", .str "LETTERS" "abcdefghijklmnopqrstuvwxyz", .int "LONGEST" 8, .str "ROOT" "fault", .str "SHEAF" "sheaf"]
def fn : List He.DefD := [dd ("_wall", none) "_wall" "_wall" s__wall, dd ("FaultError", some "__init__") "__init__" "FaultError.__init__" s_FaultError_init, dd ("is_whole", none) "is_whole" "is_whole" s_is_whole, dd ("is_name", none) "is_name" "is_name" s_is_name, dd ("Kinds", some "__init__") "__init__" "Kinds.__init__" s_Kinds_init, dd ("Kinds", some "names") "names" "Kinds.names" s_Kinds_names, dd ("Kinds", some "is_kind") "is_kind" "Kinds.is_kind" s_Kinds_is_kind, dd ("Kinds", some "want_kind") "want_kind" "Kinds.want_kind" s_Kinds_want_kind, dd ("Kinds", some "above") "above" "Kinds.above" s_Kinds_above, dd ("Kinds", some "stands_under") "stands_under" "Kinds.stands_under" s_Kinds_stands_under, dd ("Entry", some "__init__") "__init__" "Entry.__init__" s_Entry_init, dd ("Entry", some "anew") "anew" "Entry.anew" s_Entry_anew, dd ("Ledger", some "__init__") "__init__" "Ledger.__init__" s_Ledger_init, dd ("Ledger", some "kinds") "kinds" "Ledger.kinds" s_Ledger_kinds, dd ("Ledger", some "many") "many" "Ledger.many" s_Ledger_many, dd ("Ledger", some "is_fault") "is_fault" "Ledger.is_fault" s_Ledger_is_fault, dd ("Ledger", some "entry") "entry" "Ledger.entry" s_Ledger_entry, dd ("Ledger", some "want_all") "want_all" "Ledger.want_all" s_Ledger_want_all, dd ("Ledger", some "come") "come" "Ledger.come" s_Ledger_come, dd ("Ledger", some "plain") "plain" "Ledger.plain" s_Ledger_plain, dd ("Ledger", some "sheaf") "sheaf" "Ledger.sheaf" s_Ledger_sheaf, dd ("Ledger", some "like") "like" "Ledger.like" s_Ledger_like, dd ("Ledger", some "kind") "kind" "Ledger.kind" s_Ledger_kind, dd ("Ledger", some "text") "text" "Ledger.text" s_Ledger_text, dd ("Ledger", some "members") "members" "Ledger.members" s_Ledger_members, dd ("Ledger", some "notes") "notes" "Ledger.notes" s_Ledger_notes, dd ("Ledger", some "cause") "cause" "Ledger.cause" s_Ledger_cause, dd ("Ledger", some "at_work") "at_work" "Ledger.at_work" s_Ledger_at_work, dd ("Ledger", some "note") "note" "Ledger.note" s_Ledger_note, dd ("Ledger", some "blame") "blame" "Ledger.blame" s_Ledger_blame, dd ("Ledger", some "rise") "rise" "Ledger.rise" s_Ledger_rise, dd ("Ledger", some "leaves") "leaves" "Ledger.leaves" s_Ledger_leaves, dd ("Ledger", some "led") "led" "Ledger.led" s_Ledger_led, dd ("Ledger", some "twin") "twin" "Ledger.twin" s_Ledger_twin, dd ("_law_pot", none) "_law_pot" "_law_pot" s_l_pot, dd ("_law_digit", none) "_law_digit" "_law_digit" s_l_digit, dd ("_law_text", none) "_law_text" "_law_text" s_l_text, dd ("_law_name", none) "_law_name" "_law_name" s_l_name, dd ("_law_fresh", none) "_law_fresh" "_law_fresh" s_l_fresh, dd ("_law_pairs", none) "_law_pairs" "_law_pairs" s_l_pairs, dd ("_law_kind", none) "_law_kind" "_law_kind" s_l_kind, dd ("_law_told", none) "_law_told" "_law_told" s_l_told, dd ("_law_come", none) "_law_come" "_law_come" s_l_come, dd ("law", none) "law" "law" s_law]
def exs (K : PySem.W.Frag) : List Bool := [viB K, excXB K "FaultError", excXB K "NoKind", excXB K "NoText", excXB K "NoFault", excXB K "Empty"]
def exB (K : PySem.W.Frag) : Bool := (exs K).all id && (fun _ => true) K
def lo0 : List Str := ["_wall", "FaultError", "NoKind", "NoText", "NoFault", "Empty", "LETTERS", "LONGEST", "ROOT", "SHEAF", "is_whole", "is_name", "Kinds", "Entry", "Ledger", "_law_pot", "_law_digit", "_law_text", "_law_name", "_law_fresh", "_law_pairs", "_law_kind", "_law_told", "_law_come"]
def loose : List Str := lo0
abbrev R : PySem.W.OpenRow := PySem.W.OpenLaw.row PySem.Challenge.rw_faultsheaves_k12_faults_and_members
abbrev hk : PySem.W.Hook := He.hookX 6 fa fn [] [] exB
def ob (s : PySem.W.SharedT) : He.AlX := He.obsX 6 fa fn [] [] exB (HandSHeadRun.getT s)
theorem ob_eq (s : PySem.W.SharedT) : ob s = hk.obs s.abs := He.obsX_eq (HandSHeadRun.getT_eq s)
theorem run (w : World) : HandSHeadRun.RunEq R (PySem.W.view R.prog [28]) hk ob 40000 loose w := by
  intro os
  kernel_rfl
theorem tx_of {K : PySem.W.Frag} {h : Heap} {mg : Str → Option Value} (X : K.In h) (G : h.Ns mainGlobals mg) (c : He.SaysD fa fn K) (m : (exs K).all id = true) : Tx K mg := by
  have mo : ∀ (i : Nat) (b : Bool), (exs K)[i]? = some b → b = true := fun i b e => List.all_eq_true.mp m b (List.mem_of_getElem? e)
  have F0 : FD K ("_wall", none) "_wall" "_wall" s__wall := fd_of (c.def_ 0 (d := dd ("_wall", none) "_wall" "_wall" s__wall) rfl)
  have F1 : FD K ("FaultError", some "__init__") "__init__" "FaultError.__init__" s_FaultError_init := fd_of (c.def_ 1 (d := dd ("FaultError", some "__init__") "__init__" "FaultError.__init__" s_FaultError_init) rfl)
  have F2 : FD K ("is_whole", none) "is_whole" "is_whole" s_is_whole := fd_of (c.def_ 2 (d := dd ("is_whole", none) "is_whole" "is_whole" s_is_whole) rfl)
  have F3 : FD K ("is_name", none) "is_name" "is_name" s_is_name := fd_of (c.def_ 3 (d := dd ("is_name", none) "is_name" "is_name" s_is_name) rfl)
  have F4 : FD K ("Kinds", some "__init__") "__init__" "Kinds.__init__" s_Kinds_init := fd_of (c.def_ 4 (d := dd ("Kinds", some "__init__") "__init__" "Kinds.__init__" s_Kinds_init) rfl)
  have F5 : FD K ("Kinds", some "names") "names" "Kinds.names" s_Kinds_names := fd_of (c.def_ 5 (d := dd ("Kinds", some "names") "names" "Kinds.names" s_Kinds_names) rfl)
  have F6 : FD K ("Kinds", some "is_kind") "is_kind" "Kinds.is_kind" s_Kinds_is_kind := fd_of (c.def_ 6 (d := dd ("Kinds", some "is_kind") "is_kind" "Kinds.is_kind" s_Kinds_is_kind) rfl)
  have F7 : FD K ("Kinds", some "want_kind") "want_kind" "Kinds.want_kind" s_Kinds_want_kind := fd_of (c.def_ 7 (d := dd ("Kinds", some "want_kind") "want_kind" "Kinds.want_kind" s_Kinds_want_kind) rfl)
  have F8 : FD K ("Kinds", some "above") "above" "Kinds.above" s_Kinds_above := fd_of (c.def_ 8 (d := dd ("Kinds", some "above") "above" "Kinds.above" s_Kinds_above) rfl)
  have F9 : FD K ("Kinds", some "stands_under") "stands_under" "Kinds.stands_under" s_Kinds_stands_under := fd_of (c.def_ 9 (d := dd ("Kinds", some "stands_under") "stands_under" "Kinds.stands_under" s_Kinds_stands_under) rfl)
  have F10 : FD K ("Entry", some "__init__") "__init__" "Entry.__init__" s_Entry_init := fd_of (c.def_ 10 (d := dd ("Entry", some "__init__") "__init__" "Entry.__init__" s_Entry_init) rfl)
  have F11 : FD K ("Entry", some "anew") "anew" "Entry.anew" s_Entry_anew := fd_of (c.def_ 11 (d := dd ("Entry", some "anew") "anew" "Entry.anew" s_Entry_anew) rfl)
  have F12 : FD K ("Ledger", some "__init__") "__init__" "Ledger.__init__" s_Ledger_init := fd_of (c.def_ 12 (d := dd ("Ledger", some "__init__") "__init__" "Ledger.__init__" s_Ledger_init) rfl)
  have F13 : FD K ("Ledger", some "kinds") "kinds" "Ledger.kinds" s_Ledger_kinds := fd_of (c.def_ 13 (d := dd ("Ledger", some "kinds") "kinds" "Ledger.kinds" s_Ledger_kinds) rfl)
  have F14 : FD K ("Ledger", some "many") "many" "Ledger.many" s_Ledger_many := fd_of (c.def_ 14 (d := dd ("Ledger", some "many") "many" "Ledger.many" s_Ledger_many) rfl)
  have F15 : FD K ("Ledger", some "is_fault") "is_fault" "Ledger.is_fault" s_Ledger_is_fault := fd_of (c.def_ 15 (d := dd ("Ledger", some "is_fault") "is_fault" "Ledger.is_fault" s_Ledger_is_fault) rfl)
  have F16 : FD K ("Ledger", some "entry") "entry" "Ledger.entry" s_Ledger_entry := fd_of (c.def_ 16 (d := dd ("Ledger", some "entry") "entry" "Ledger.entry" s_Ledger_entry) rfl)
  have F17 : FD K ("Ledger", some "want_all") "want_all" "Ledger.want_all" s_Ledger_want_all := fd_of (c.def_ 17 (d := dd ("Ledger", some "want_all") "want_all" "Ledger.want_all" s_Ledger_want_all) rfl)
  have F18 : FD K ("Ledger", some "come") "come" "Ledger.come" s_Ledger_come := fd_of (c.def_ 18 (d := dd ("Ledger", some "come") "come" "Ledger.come" s_Ledger_come) rfl)
  have F19 : FD K ("Ledger", some "plain") "plain" "Ledger.plain" s_Ledger_plain := fd_of (c.def_ 19 (d := dd ("Ledger", some "plain") "plain" "Ledger.plain" s_Ledger_plain) rfl)
  have F20 : FD K ("Ledger", some "sheaf") "sheaf" "Ledger.sheaf" s_Ledger_sheaf := fd_of (c.def_ 20 (d := dd ("Ledger", some "sheaf") "sheaf" "Ledger.sheaf" s_Ledger_sheaf) rfl)
  have F21 : FD K ("Ledger", some "like") "like" "Ledger.like" s_Ledger_like := fd_of (c.def_ 21 (d := dd ("Ledger", some "like") "like" "Ledger.like" s_Ledger_like) rfl)
  have F22 : FD K ("Ledger", some "kind") "kind" "Ledger.kind" s_Ledger_kind := fd_of (c.def_ 22 (d := dd ("Ledger", some "kind") "kind" "Ledger.kind" s_Ledger_kind) rfl)
  have F23 : FD K ("Ledger", some "text") "text" "Ledger.text" s_Ledger_text := fd_of (c.def_ 23 (d := dd ("Ledger", some "text") "text" "Ledger.text" s_Ledger_text) rfl)
  have F24 : FD K ("Ledger", some "members") "members" "Ledger.members" s_Ledger_members := fd_of (c.def_ 24 (d := dd ("Ledger", some "members") "members" "Ledger.members" s_Ledger_members) rfl)
  have F25 : FD K ("Ledger", some "notes") "notes" "Ledger.notes" s_Ledger_notes := fd_of (c.def_ 25 (d := dd ("Ledger", some "notes") "notes" "Ledger.notes" s_Ledger_notes) rfl)
  have F26 : FD K ("Ledger", some "cause") "cause" "Ledger.cause" s_Ledger_cause := fd_of (c.def_ 26 (d := dd ("Ledger", some "cause") "cause" "Ledger.cause" s_Ledger_cause) rfl)
  have F27 : FD K ("Ledger", some "at_work") "at_work" "Ledger.at_work" s_Ledger_at_work := fd_of (c.def_ 27 (d := dd ("Ledger", some "at_work") "at_work" "Ledger.at_work" s_Ledger_at_work) rfl)
  have F28 : FD K ("Ledger", some "note") "note" "Ledger.note" s_Ledger_note := fd_of (c.def_ 28 (d := dd ("Ledger", some "note") "note" "Ledger.note" s_Ledger_note) rfl)
  have F29 : FD K ("Ledger", some "blame") "blame" "Ledger.blame" s_Ledger_blame := fd_of (c.def_ 29 (d := dd ("Ledger", some "blame") "blame" "Ledger.blame" s_Ledger_blame) rfl)
  have F30 : FD K ("Ledger", some "rise") "rise" "Ledger.rise" s_Ledger_rise := fd_of (c.def_ 30 (d := dd ("Ledger", some "rise") "rise" "Ledger.rise" s_Ledger_rise) rfl)
  have F31 : FD K ("Ledger", some "leaves") "leaves" "Ledger.leaves" s_Ledger_leaves := fd_of (c.def_ 31 (d := dd ("Ledger", some "leaves") "leaves" "Ledger.leaves" s_Ledger_leaves) rfl)
  have F32 : FD K ("Ledger", some "led") "led" "Ledger.led" s_Ledger_led := fd_of (c.def_ 32 (d := dd ("Ledger", some "led") "led" "Ledger.led" s_Ledger_led) rfl)
  have F33 : FD K ("Ledger", some "twin") "twin" "Ledger.twin" s_Ledger_twin := fd_of (c.def_ 33 (d := dd ("Ledger", some "twin") "twin" "Ledger.twin" s_Ledger_twin) rfl)
  have F34 : FD K ("_law_pot", none) "_law_pot" "_law_pot" s_l_pot := fd_of (c.def_ 34 (d := dd ("_law_pot", none) "_law_pot" "_law_pot" s_l_pot) rfl)
  have F35 : FD K ("_law_digit", none) "_law_digit" "_law_digit" s_l_digit := fd_of (c.def_ 35 (d := dd ("_law_digit", none) "_law_digit" "_law_digit" s_l_digit) rfl)
  have F36 : FD K ("_law_text", none) "_law_text" "_law_text" s_l_text := fd_of (c.def_ 36 (d := dd ("_law_text", none) "_law_text" "_law_text" s_l_text) rfl)
  have F37 : FD K ("_law_name", none) "_law_name" "_law_name" s_l_name := fd_of (c.def_ 37 (d := dd ("_law_name", none) "_law_name" "_law_name" s_l_name) rfl)
  have F38 : FD K ("_law_fresh", none) "_law_fresh" "_law_fresh" s_l_fresh := fd_of (c.def_ 38 (d := dd ("_law_fresh", none) "_law_fresh" "_law_fresh" s_l_fresh) rfl)
  have F39 : FD K ("_law_pairs", none) "_law_pairs" "_law_pairs" s_l_pairs := fd_of (c.def_ 39 (d := dd ("_law_pairs", none) "_law_pairs" "_law_pairs" s_l_pairs) rfl)
  have F40 : FD K ("_law_kind", none) "_law_kind" "_law_kind" s_l_kind := fd_of (c.def_ 40 (d := dd ("_law_kind", none) "_law_kind" "_law_kind" s_l_kind) rfl)
  have F41 : FD K ("_law_told", none) "_law_told" "_law_told" s_l_told := fd_of (c.def_ 41 (d := dd ("_law_told", none) "_law_told" "_law_told" s_l_told) rfl)
  have F42 : FD K ("_law_come", none) "_law_come" "_law_come" s_l_come := fd_of (c.def_ 42 (d := dd ("_law_come", none) "_law_come" "_law_come" s_l_come) rfl)
  have F43 : FD K ("law", none) "law" "law" s_law := fd_of (c.def_ 43 (d := dd ("law", none) "law" "law" s_law) rfl)
  exact ⟨⟨F0, FunD.bindsN F0 (fun _ _ _ _ _ _ us hl => match us, hl with | [_], _ => rfl), He.glo_ok X G (c.fact 0 (f := .glo "_wall") rfl)⟩,
  ⟨F1, FunD.bindsN F1 (fun _ _ _ _ _ _ us hl => match us, hl with | [_, _], _ => rfl), He.meth_ok (c.fact 1 (f := .meth "FaultError" "__init__") rfl)⟩,
  ⟨F2, FunD.bindsN F2 (fun _ _ _ _ _ _ us hl => match us, hl with | [_], _ => rfl), He.glo_ok X G (c.fact 2 (f := .glo "is_whole") rfl)⟩,
  ⟨F3, FunD.bindsN F3 (fun _ _ _ _ _ _ us hl => match us, hl with | [_], _ => rfl), He.glo_ok X G (c.fact 3 (f := .glo "is_name") rfl)⟩,
  ⟨F4, FunD.bindsN F4 (fun _ _ _ _ _ _ us hl => match us, hl with | [_, _], _ => rfl), He.meth_ok (c.fact 4 (f := .meth "Kinds" "__init__") rfl)⟩,
  ⟨F5, FunD.bindsN F5 (fun _ _ _ _ _ _ us hl => match us, hl with | [_], _ => rfl), He.meth_ok (c.fact 5 (f := .meth "Kinds" "names") rfl)⟩,
  ⟨F6, FunD.bindsN F6 (fun _ _ _ _ _ _ us hl => match us, hl with | [_, _], _ => rfl), He.meth_ok (c.fact 6 (f := .meth "Kinds" "is_kind") rfl)⟩,
  ⟨F7, FunD.bindsN F7 (fun _ _ _ _ _ _ us hl => match us, hl with | [_, _], _ => rfl), He.meth_ok (c.fact 7 (f := .meth "Kinds" "want_kind") rfl)⟩,
  ⟨F8, FunD.bindsN F8 (fun _ _ _ _ _ _ us hl => match us, hl with | [_, _], _ => rfl), He.meth_ok (c.fact 8 (f := .meth "Kinds" "above") rfl)⟩,
  ⟨F9, FunD.bindsN F9 (fun _ _ _ _ _ _ us hl => match us, hl with | [_, _, _], _ => rfl), He.meth_ok (c.fact 9 (f := .meth "Kinds" "stands_under") rfl)⟩,
  ⟨F10, FunD.bindsN F10 (fun _ _ _ _ _ _ us hl => match us, hl with | [_, _, _, _], _ => rfl), He.meth_ok (c.fact 10 (f := .meth "Entry" "__init__") rfl)⟩,
  ⟨F11, FunD.bindsN F11 (fun _ _ _ _ _ _ us hl => match us, hl with | [_, _], _ => rfl), He.meth_ok (c.fact 11 (f := .meth "Entry" "anew") rfl)⟩,
  ⟨F12, FunD.bindsN F12 (fun _ _ _ _ _ _ us hl => match us, hl with | [_, _], _ => rfl), He.meth_ok (c.fact 12 (f := .meth "Ledger" "__init__") rfl)⟩,
  ⟨F13, FunD.bindsN F13 (fun _ _ _ _ _ _ us hl => match us, hl with | [_], _ => rfl), He.meth_ok (c.fact 13 (f := .meth "Ledger" "kinds") rfl)⟩,
  ⟨F14, FunD.bindsN F14 (fun _ _ _ _ _ _ us hl => match us, hl with | [_], _ => rfl), He.meth_ok (c.fact 14 (f := .meth "Ledger" "many") rfl)⟩,
  ⟨F15, FunD.bindsN F15 (fun _ _ _ _ _ _ us hl => match us, hl with | [_, _], _ => rfl), He.meth_ok (c.fact 15 (f := .meth "Ledger" "is_fault") rfl)⟩,
  ⟨F16, FunD.bindsN F16 (fun _ _ _ _ _ _ us hl => match us, hl with | [_, _], _ => rfl), He.meth_ok (c.fact 16 (f := .meth "Ledger" "entry") rfl)⟩,
  ⟨F17, FunD.bindsN F17 (fun _ _ _ _ _ _ us hl => match us, hl with | [_, _], _ => rfl), He.meth_ok (c.fact 17 (f := .meth "Ledger" "want_all") rfl)⟩,
  ⟨F18, FunD.bindsN F18 (fun _ _ _ _ _ _ us hl => match us, hl with | [_, _], _ => rfl), He.meth_ok (c.fact 18 (f := .meth "Ledger" "come") rfl)⟩,
  ⟨F19, FunD.bindsN F19 (fun _ _ _ _ _ _ us hl => match us, hl with | [_, _, _], _ => rfl), He.meth_ok (c.fact 19 (f := .meth "Ledger" "plain") rfl)⟩,
  ⟨F20, FunD.bindsN F20 (fun _ _ _ _ _ _ us hl => match us, hl with | [_, _, _], _ => rfl), He.meth_ok (c.fact 20 (f := .meth "Ledger" "sheaf") rfl)⟩,
  ⟨F21, FunD.bindsN F21 (fun _ _ _ _ _ _ us hl => match us, hl with | [_, _, _], _ => rfl), He.meth_ok (c.fact 21 (f := .meth "Ledger" "like") rfl)⟩,
  ⟨F22, FunD.bindsN F22 (fun _ _ _ _ _ _ us hl => match us, hl with | [_, _], _ => rfl), He.meth_ok (c.fact 22 (f := .meth "Ledger" "kind") rfl)⟩,
  ⟨F23, FunD.bindsN F23 (fun _ _ _ _ _ _ us hl => match us, hl with | [_, _], _ => rfl), He.meth_ok (c.fact 23 (f := .meth "Ledger" "text") rfl)⟩,
  ⟨F24, FunD.bindsN F24 (fun _ _ _ _ _ _ us hl => match us, hl with | [_, _], _ => rfl), He.meth_ok (c.fact 24 (f := .meth "Ledger" "members") rfl)⟩,
  ⟨F25, FunD.bindsN F25 (fun _ _ _ _ _ _ us hl => match us, hl with | [_, _], _ => rfl), He.meth_ok (c.fact 25 (f := .meth "Ledger" "notes") rfl)⟩,
  ⟨F26, FunD.bindsN F26 (fun _ _ _ _ _ _ us hl => match us, hl with | [_, _], _ => rfl), He.meth_ok (c.fact 26 (f := .meth "Ledger" "cause") rfl)⟩,
  ⟨F27, FunD.bindsN F27 (fun _ _ _ _ _ _ us hl => match us, hl with | [_, _], _ => rfl), He.meth_ok (c.fact 27 (f := .meth "Ledger" "at_work") rfl)⟩,
  ⟨F28, FunD.bindsN F28 (fun _ _ _ _ _ _ us hl => match us, hl with | [_, _, _], _ => rfl), He.meth_ok (c.fact 28 (f := .meth "Ledger" "note") rfl)⟩,
  ⟨F29, FunD.bindsN F29 (fun _ _ _ _ _ _ us hl => match us, hl with | [_, _, _], _ => rfl), He.meth_ok (c.fact 29 (f := .meth "Ledger" "blame") rfl)⟩,
  ⟨F30, FunD.bindsN F30 (fun _ _ _ _ _ _ us hl => match us, hl with | [_, _, _], _ => rfl), He.meth_ok (c.fact 30 (f := .meth "Ledger" "rise") rfl)⟩,
  ⟨F31, FunD.bindsN F31 (fun _ _ _ _ _ _ us hl => match us, hl with | [_, _], _ => rfl), He.meth_ok (c.fact 31 (f := .meth "Ledger" "leaves") rfl)⟩,
  ⟨F32, FunD.bindsN F32 (fun _ _ _ _ _ _ us hl => match us, hl with | [_, _, _], _ => rfl), He.meth_ok (c.fact 32 (f := .meth "Ledger" "led") rfl)⟩,
  ⟨F33, FunD.bindsN F33 (fun _ _ _ _ _ _ us hl => match us, hl with | [_], _ => rfl), He.meth_ok (c.fact 33 (f := .meth "Ledger" "twin") rfl)⟩,
  ⟨F34, FunD.bindsN F34 (fun _ _ _ _ _ _ us hl => match us, hl with | [_, _], _ => rfl), He.glo_ok X G (c.fact 34 (f := .glo "_law_pot") rfl)⟩,
  ⟨F35, FunD.bindsN F35 (fun _ _ _ _ _ _ us hl => match us, hl with | [_, _], _ => rfl), He.glo_ok X G (c.fact 35 (f := .glo "_law_digit") rfl)⟩,
  ⟨F36, FunD.bindsN F36 (fun _ _ _ _ _ _ us hl => match us, hl with | [_], _ => rfl), He.glo_ok X G (c.fact 36 (f := .glo "_law_text") rfl)⟩,
  ⟨F37, FunD.bindsN F37 (fun _ _ _ _ _ _ us hl => match us, hl with | [_], _ => rfl), He.glo_ok X G (c.fact 37 (f := .glo "_law_name") rfl)⟩,
  ⟨F38, FunD.bindsN F38 (fun _ _ _ _ _ _ us hl => match us, hl with | [_, _], _ => rfl), He.glo_ok X G (c.fact 38 (f := .glo "_law_fresh") rfl)⟩,
  ⟨F39, FunD.bindsN F39 (fun _ _ _ _ _ _ us hl => match us, hl with | [_], _ => rfl), He.glo_ok X G (c.fact 39 (f := .glo "_law_pairs") rfl)⟩,
  ⟨F40, FunD.bindsN F40 (fun _ _ _ _ _ _ us hl => match us, hl with | [_, _], _ => rfl), He.glo_ok X G (c.fact 40 (f := .glo "_law_kind") rfl)⟩,
  ⟨F41, FunD.bindsN F41 (fun _ _ _ _ _ _ us hl => match us, hl with | [_], _ => rfl), He.glo_ok X G (c.fact 41 (f := .glo "_law_told") rfl)⟩,
  ⟨F42, FunD.bindsN F42 (fun _ _ _ _ _ _ us hl => match us, hl with | [_, _, _, _, _], _ => rfl), He.glo_ok X G (c.fact 42 (f := .glo "_law_come") rfl)⟩,
  ⟨F43, FunD.bindsN F43 (fun _ _ _ _ _ _ us hl => match us, hl with | [_], _ => rfl), He.glo_ok X G (c.fact 43 (f := .glo "law") rfl)⟩,
  He.free_ok X G (c.fact 44 (f := .free "ValueError") rfl),
  He.free_ok X G (c.fact 45 (f := .free "all") rfl),
  He.free_ok X G (c.fact 46 (f := .free "bool") rfl),
  He.free_ok X G (c.fact 47 (f := .free "int") rfl),
  He.free_ok X G (c.fact 48 (f := .free "isinstance") rfl),
  He.free_ok X G (c.fact 49 (f := .free "len") rfl),
  He.free_ok X G (c.fact 50 (f := .free "list") rfl),
  He.free_ok X G (c.fact 51 (f := .free "max") rfl),
  He.free_ok X G (c.fact 52 (f := .free "min") rfl),
  He.free_ok X G (c.fact 53 (f := .free "range") rfl),
  He.free_ok X G (c.fact 54 (f := .free "repr") rfl),
  He.free_ok X G (c.fact 55 (f := .free "str") rfl),
  He.free_ok X G (c.fact 56 (f := .free "sum") rfl),
  He.glo_ok X G (c.fact 57 (f := .glo "FaultError") rfl),
  He.glo_ok X G (c.fact 58 (f := .glo "NoKind") rfl),
  He.glo_ok X G (c.fact 59 (f := .glo "NoText") rfl),
  He.glo_ok X G (c.fact 60 (f := .glo "NoFault") rfl),
  He.glo_ok X G (c.fact 61 (f := .glo "Empty") rfl),
  He.glo_ok X G (c.fact 62 (f := .glo "Kinds") rfl),
  He.glo_ok X G (c.fact 63 (f := .glo "Entry") rfl),
  He.glo_ok X G (c.fact 64 (f := .glo "Ledger") rfl),
  viB_ok (mo 0 _ rfl),
  He.cls_ok (c.fact 65 (f := .cls "Kinds") rfl),
  He.mkr_ok (c.fact 66 (f := .mkr "Kinds") rfl),
  He.noat_ok (c.fact 67 (f := .noat "Kinds" "uppers") rfl),
  He.cls_ok (c.fact 68 (f := .cls "Entry") rfl),
  He.mkr_ok (c.fact 69 (f := .mkr "Entry") rfl),
  He.noat_ok (c.fact 70 (f := .noat "Entry" "its_kind") rfl),
  He.noat_ok (c.fact 71 (f := .noat "Entry" "told") rfl),
  He.noat_ok (c.fact 72 (f := .noat "Entry" "inner") rfl),
  He.noat_ok (c.fact 73 (f := .noat "Entry" "noted") rfl),
  He.noat_ok (c.fact 74 (f := .noat "Entry" "blamed") rfl),
  He.noat_ok (c.fact 75 (f := .noat "Entry" "worked") rfl),
  He.cls_ok (c.fact 76 (f := .cls "Ledger") rfl),
  He.mkr_ok (c.fact 77 (f := .mkr "Ledger") rfl),
  He.noat_ok (c.fact 78 (f := .noat "Ledger" "sorts") rfl),
  He.noat_ok (c.fact 79 (f := .noat "Ledger" "entries") rfl),
  excXB_ok (mo 1 _ rfl),
  excXB_ok (mo 2 _ rfl),
  excXB_ok (mo 3 _ rfl),
  excXB_ok (mo 4 _ rfl),
  excXB_ok (mo 5 _ rfl),
  He.str_ok X G (c.fact 80 (f := .str "LETTERS" "abcdefghijklmnopqrstuvwxyz") rfl),
  He.int_ok X G (c.fact 81 (f := .int "LONGEST" 8) rfl),
  He.str_ok X G (c.fact 82 (f := .str "ROOT" "fault") rfl),
  He.str_ok X G (c.fact 83 (f := .str "SHEAF" "sheaf") rfl)⟩
end KL
open PySem PySem.W PySem.Calls PyProof.Rows
set_option maxRecDepth 100000 in
set_option maxHeartbeats 0 in
theorem PySem.Challenge.cw_faultsheaves_k12_faults_and_members_holds : PySem.Challenge.rw_faultsheaves_k12_faults_and_members.Holds := by
  w_on; o_law
  refine HandSHeadRun.head_any (r := OpenLaw.row PySem.Challenge.rw_faultsheaves_k12_faults_and_members) (q := view (OpenLaw.row PySem.Challenge.rw_faultsheaves_k12_faults_and_members).prog [28]) (H := KL.hk) (ob := KL.ob) (M := 40000) (loose := KL.loose) (d := HandSHeadRun.topDef (OpenLaw.row PySem.Challenge.rw_faultsheaves_k12_faults_and_members).prog 28) (kwd := []) KL.ob_eq
    (by kernel_rfl) (fun s => by kernel_rfl) KL.run (by kernel_rfl) (by kernel_rfl) (by kernel_rfl) (by rfl) (by first | assumption | decide +kernel) (by decide +kernel) ⟨rfl, rfl, rfl, rfl, rfl, by decide +kernel⟩ ?hw ?hc
  case hw => w_witness2
  case hc =>
    refine FS.walk_ofG (l := PySem.Challenge.rw_faultsheaves_k12_faults_and_members) (n := 63) (k := 9) (x := "_law_script") rfl (by decide) (by kernel_rfl) ⟨rfl, by decide, by decide⟩ ?F
    intro w mg fa h Y G hmg0
    obtain ⟨K, KX, c⟩ := Y
    have hmg : mg ("law" : PySem.Str) = some (.ref fa) := by
      have e : (HandSHeadRun.topDef (OpenLaw.row PySem.Challenge.rw_faultsheaves_k12_faults_and_members).prog 28).name = ("law" : PySem.Str) := by kernel_rfl
      rw [← e]
      exact hmg0
    have cc := He.ba c.more
    have T : KL.Tx K mg := KL.tx_of KX G c.t.d cc.1
    have e := hmg.symm.trans T.f_law.mg
    cases e
    exact ⟨K, FS.fdOf K ("law", none), KL.spLaw K, KX, fun s u => L2.FunD.bindsA (ps := KL.pr_law) T.f_law.fn (fun _ _ _ _ _ _ us hl => match us, hl with | [_], _ => rfl) s [u] rfl, fun H a ns hl hO hS => ⟨a, ns, rfl, hS, hl, hO, fun _ => rfl⟩, fun base _ _ => KL.ok_law T⟩


