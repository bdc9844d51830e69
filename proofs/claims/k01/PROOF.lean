import PyProof.Rows.All
import Wide.All
import OpenK.AllK
import Wide.FinOn
import HandS.ForMost
import HandS.NoneIn
import HandS.IsInst
import HandS.Wide
import HandS.WideBits
import PySem.Challenge.RW_roomslaid_k01_words_and_cells
set_option Elab.async false
set_option linter.all false
set_option maxRecDepth 100000
set_option maxHeartbeats 4000000
/-! my base: short calls, heaps, readings by simp -/
namespace Rb
open PySem PySem.Spec PyProof.Rows L2

/-! ### a def of the text with its promise -/
structure Dn (P : Program) (w : World) (K : PySem.W.Frag) (mg : Str → Option Value) (base : Heap) (CX : CXT) (k : Nat) (x : Str) (ps : List Str) (sp : Sp) : Prop where
  ex : ∃ f fd, FnOk P w K mg base CX k f fd ps sp ∧ mg x = some (.ref f) ∧ PySem.W.keepIn K (.ref f) = true ∧ Binds K fd ps []
section
variable {X : Cx} {CX : CXT} {k : Nat} {ps : List Str} {sp : Sp} {E : XK} {x : Str} {p pos : Pos} {e : Expr} {es : List Expr} {t : TA}
theorem pe_cd (D : Dn X.prog X.w X.K X.mg X.base CX k x ps sp) (hr : Room k X.A) (hg : Gl X x) (hx : Passes CX X E) (ha : PA X (e :: es) t)
    (hdb : (x == ("__debug__" : Str)) = false := by decide) (he : starEach (e :: es) X.env = (false, eval e X.env) :: starEach es X.env := by rfl) (hpl : (backTo pos (starEach es X.env)).any (·.1) = false := by rfl) :
    PE X (.Call (.Name x p) (e :: es) [] pos) (tCall sp [] E t) := by
  obtain ⟨f, fd, F, m, kp, b⟩ := D.ex
  exact pe_call F hr hg m kp b .nil hx ha hdb he hpl
theorem pe_cd0 (D : Dn X.prog X.w X.K X.mg X.base CX k x ps sp) (hr : Room k X.A) (hg : Gl X x) (hx : Passes CX X E)
    (hdb : (x == ("__debug__" : Str)) = false := by decide) : PE X (.Call (.Name x p) [] [] pos) (tCall sp [] E tNil) := by
  obtain ⟨f, fd, F, m, kp, b⟩ := D.ex
  exact pe_call0 F hr hg m kp b .nil hx hdb
end

/-! ### heaps -/
/-- all but a is as it was -/
def Off (a : Addr) (H H' : Hp) : Prop := ∀ b o, b ≠ a → H b = some o → H' b = some o
theorem Off.refl {a : Addr} (H : Hp) : Off a H H := fun _ _ _ h => h
theorem Off.trans {a : Addr} {H H1 H2 : Hp} (p : Off a H H1) (q : Off a H1 H2) : Off a H H2 := fun b o n h => q b o n (p b o n h)
theorem Off.of {a : Addr} {H H' : Hp} (s : Same H H') : Off a H H' := fun b o _ h => s b o h
theorem Off.upd {a : Addr} {H : Hp} {o : HO} : Off a H (upd H a o) := fun b u n h => by rw [upd_ne n]; exact h
theorem Off.at {a b : Addr} {H H' : Hp} {o u : HO} (f : Off a H H') (h : H b = some o) (ha : H a = some u) (ne : o ≠ u) : H' b = some o := f b o (ne_of h ha ne) h
theorem same_new {H : Hp} {p : Addr} {o : HO} (h : H p = none) : Same H (upd H p o) := fun b u e => by rw [upd_ne (ne_of_none e h)]; exact e
/-- a new object: its place, the heap from then on -/
theorem new_intro {H : Hp} {o : HO} {Q : VK} (h : ∀ p H1, H p = none → Same H H1 → H1 p = some o → Q (.ref p) H1) : ∀ p, H p = none → Q (.ref p) (upd H p o) := fun p hp => h p _ hp (same_new hp) upd_same
theorem Same.rd {H H' : Hp} {a : Addr} {u : HO} (s : Same H H') (h : Rd H a u) : Rd H' a u := by
  rcases h with h | ⟨o, h⟩
  · exact .inl (s _ _ h)
  · exact .inr ⟨o, s _ _ h⟩
theorem Same.seqT {K : PySem.W.Frag} {H H' : Hp} {a : Addr} {xs : List V} (e : Same H H') (h : SqT K H a xs) : SqT K H' a xs := by
  rcases h with h | h
  · exact .inl (Same.rd e h)
  · exact .inr h
theorem seq_of {K : PySem.W.Frag} {H : Hp} {a : Addr} {xs : List V} (h : H a = some (.lst xs)) : SqL K H a xs := .inl (.inl h)
theorem seqT_of {K : PySem.W.Frag} {H : Hp} {a : Addr} {xs : List V} (h : H a = some (.tup xs)) : SqT K H a xs := .inl (.inl h)
theorem Off.seq {K : PySem.W.Frag} {a b : Addr} {H H' : Hp} {xs ys : List V} (f : Off a H H') (h : SqL K H b xs) (ha : H a = some (.lst ys)) (hb : b ≠ a) : SqL K H' b xs := by
  rcases h with (h | ⟨o, h⟩) | h
  · exact .inl (.inl (f _ _ hb h))
  · exact .inl (.inr ⟨o, f _ _ hb h⟩)
  · exact .inr h
theorem Off.frz {a b : Addr} {H H' : Hp} {o : Obj} {u : HO} {ys : List V} (f : Off a H H') (h : H b = some (.frz o u)) (ha : H a = some (.lst ys)) : H' b = some (.frz o u) := f.at h ha (by intro z; cases z)
/-- made since H, changed as one likes -/
theorem Same.mut {H H' : Hp} {p : Addr} {o : HO} (s : Same H H') (h : H p = none) : Same H (upd H' p o) := fun b u e => by rw [upd_ne (ne_of_none e h)]; exact s b u e
theorem Same.off {a : Addr} {H H1 H2 : Hp} (s : Same H H1) (h : H a = none) (f : Off a H1 H2) : Same H H2 := fun b u e => f b u (ne_of_none e h) (s b u e)
theorem none_back {H H' : Hp} {p : Addr} (s : Same H H') (h : H' p = none) : H p = none := s.free h
theorem Off.none {a p : Addr} {H H' : Hp} {u : HO} (f : Off a H H') (ha : H a = some u) (ha' : H' p = Option.none) (h' : ∃ o, H' a = some o) : H p = Option.none := by
  cases q : H p with
  | none => rfl
  | some o =>
    by_cases e : p = a
    · subst e
      obtain ⟨o', h'⟩ := h'
      rw [h'] at ha'; cases ha'
    · rw [f p o e q] at ha'; cases ha'
/-! ### what comes new, what is changed: told by letters -/
def New (H : Hp) (o : HO) (R : Addr → Hp → Prop) : Prop := ∀ p, H p = none → R p (upd H p o)
theorem New.intro {H : Hp} {o : HO} {R : Addr → Hp → Prop} (h : ∀ p H2, H p = none → Same H H2 → H2 p = some o → R p H2) : New H o R := fun p hp => h p _ hp (same_new hp) upd_same
def Upd (H : Hp) (a : Addr) (o : HO) (R : Hp → Prop) : Prop := R (upd H a o)
theorem Upd.intro {H : Hp} {a : Addr} {o : HO} {R : Hp → Prop} (h : ∀ H2, Off a H H2 → H2 a = some o → R H2) : Upd H a o R := h _ Off.upd upd_same
def Loop (J : It) (g : TG) (tb : TS) (D : Ends) (σ : L2.St) (H : Hp) : Prop := ∃ W : Nat → Nat → L2.St → Hp → Prop, (∃ m, W 0 m σ H) ∧ ∀ i m σ H, W i m σ H →
  (J.stop i H ∧ D.nx σ H) ∨ (J.go i H ∧ ∃ N : L2.St → Hp → Prop, (∀ σ' H', N σ' H' → ∃ m', m' < m ∧ W (i + 1) m' σ' H') ∧ ∀ x H', J.yld i H x H' → g x σ H' fun σ2 H2 => tb { D with nx := N, ct := N, bk := D.nx } σ2 H2)
def Cmp (J : It) (g : TG) (tt : TT) (te : TE) (vs : List Nat) (σ : L2.St) (H1 : Hp) (Q : VK) : Prop := ∀ D, H1 D = none → ∃ W : Nat → Nat → Hp → Prop, (∃ m, W 0 m (upd H1 D (.lst []))) ∧ ∀ i m H, W i m H →
  (J.stop i H ∧ Q (.ref D) H) ∨ (J.go i H ∧ ∃ Nx : Hp → Prop, (∀ H', Nx H' → ∃ m', m' < m ∧ W (i + 1) m' H') ∧ ∀ x H', J.yld i H x H' → g x (wipe σ vs) H' fun σ2 H2 => wipe σ2 vs = wipe σ vs ∧ tt σ2 H2 fun b H3 =>
    if b = true then te σ2 H3 fun y H4 => ∃ acc, H4 D = some (.lst acc) ∧ acc.length < sizeLine ∧ Nx (upd H4 D (.lst (acc ++ [y]))) else Nx H3)
theorem tTup_n {t : TA} : tTup t = fun σ H Q => t σ H fun xs H1 => xs.length ≤ sizeLine ∧ New H1 (.tup xs) fun p H2 => Q (.ref p) H2 := rfl
theorem tLst_n {t : TA} : tLst t = fun σ H Q => t σ H fun xs H1 => xs.length ≤ sizeLine ∧ New H1 (.lst xs) fun p H2 => Q (.ref p) H2 := rfl
theorem rSlL_n {K : PySem.W.Frag} : rSlL K = fun x lo hi H Q => ∃ a xs, x = .ref a ∧ SqL K H a xs ∧ New H (.lst (cutV xs lo hi)) fun p H2 => Q (.ref p) H2 := rfl
theorem rAppend_n : rAppend = fun x vs H Q => ∃ l xs y, x = .ref l ∧ vs = [y] ∧ H l = some (.lst xs) ∧ xs.length < sizeLine ∧ Upd H l (.lst (xs ++ [y])) fun H2 => Q .non H2 := rfl
theorem rExtend_n : rExtend = fun x vs H Q => ∃ l b xs zs, x = .ref l ∧ vs = [.ref b] ∧ H l = some (.lst xs) ∧ H b = some (.lst zs) ∧ xs.length + zs.length ≤ sizeLine ∧ Upd H l (.lst (xs ++ zs)) fun H2 => Q .non H2 := rfl
theorem rPop_n : rPop = fun x vs H Q => ∃ l xs y, x = .ref l ∧ vs = [] ∧ H l = some (.lst xs) ∧ xs[xs.length - 1]? = some y ∧ Upd H l (.lst xs.dropLast) fun H2 => Q y H2 := rfl
theorem rClear_n : rClear = fun x vs H Q => ∃ l xs, x = .ref l ∧ vs = [] ∧ H l = some (.lst xs) ∧ Upd H l (.lst []) fun H2 => Q .non H2 := rfl
theorem rSetL_n : rSetL = fun o i v H Q => ∃ p xs k j, o = .ref p ∧ i = .int k ∧ H p = some (.lst xs) ∧ ixN xs.length k = some j ∧ Upd H p (.lst (xs.set j v)) fun H2 => Q H2 := rfl
theorem tFor_n {wi : TI} {g : TG} {tb : TS} : tFor wi g tb = fun D σ H => wi σ H fun J H1 => Loop J g tb D σ H1 := rfl
theorem tLc_n {wi : TI} {g : TG} {tt : TT} {te : TE} {vs : List Nat} : tLc wi g tt te vs = fun σ H Q => wi σ H fun J H1 => Cmp J g tt te vs σ H1 Q := rfl
/-! built-ins, by letters -/
def rDivmod : List V → Hp → VK → Prop := fun xs H Q => ∃ i j, xs = [.int i, .int j] ∧ CDiv i j ∧ New H (.tup [.int (i / j), .int (i % j)]) fun p H2 => Q (.ref p) H2
theorem call_divmodR {X : Cx} : CallR X (.builtin "divmod") rDivmod := call_divmod
def rListOf (K : PySem.W.Frag) : List V → Hp → VK → Prop := fun xs H Q => ∃ p ys, xs = [.ref p] ∧ (SqL K H p ys ∨ SqT K H p ys) ∧ New H (.lst ys) fun l H2 => Q (.ref l) H2
theorem call_listR {X : Cx} : CallR X (.type "list") (rListOf X.K) := call_list_of
def rTupOf (K : PySem.W.Frag) : List V → Hp → VK → Prop := fun xs H Q => ∃ p ys, xs = [.ref p] ∧ ((SqL K H p ys ∧ New H (.tup ys) fun l H2 => Q (.ref l) H2) ∨ (SqT K H p ys ∧ Q (.ref p) H))
theorem call_tupR {X : Cx} : CallR X (.type "tuple") (rTupOf X.K) := call_tuple_of
def rLenSeq (K : PySem.W.Frag) : List V → Hp → VK → Prop := fun xs H Q => ∃ p ys, xs = [.ref p] ∧ (SqL K H p ys ∨ SqT K H p ys) ∧ Q (.int ys.length) H
theorem call_lenR {X : Cx} : CallR X (.builtin "len") (rLenSeq X.K) := call_len_seq
def rMin2 : List V → Hp → VK → Prop := fun xs H Q => ∃ i j, xs = [.int i, .int j] ∧ Q (.int (if j < i then j else i)) H
def rMax2 : List V → Hp → VK → Prop := fun xs H Q => ∃ i j, xs = [.int i, .int j] ∧ Q (.int (if j > i then j else i)) H
theorem call_min2R {X : Cx} (hc : X.calm = true) : CallR X (.builtin "min") rMin2 := call_min2 hc
theorem call_max2R {X : Cx} (hc : X.calm = true) : CallR X (.builtin "max") rMax2 := call_max2 hc

/-! ### loops by an invariant -/
theorem Loop.list {K : PySem.W.Frag} {a : Addr} {xs : List V} {g : TG} {tb : TS} {D : Ends} {σ : L2.St} {H : Hp} (Pv : Nat → L2.St → Hp → Prop) (h0 : Pv 0 σ H) (hl : ∀ i σ H, i ≤ xs.length → Pv i σ H → SqL K H a xs)
    (hs : ∀ i x σ H, xs[i]? = some x → Pv i σ H → g x σ H fun σ2 H2 => tb { D with nx := Pv (i + 1), ct := Pv (i + 1), bk := D.nx } σ2 H2) (hd : ∀ σ H, Pv xs.length σ H → D.nx σ H) : Loop (Itl K a) g tb D σ H := for_list Pv h0 hl hs hd
theorem Loop.tup {K : PySem.W.Frag} {a : Addr} {xs : List V} {g : TG} {tb : TS} {D : Ends} {σ : L2.St} {H : Hp} (Pv : Nat → L2.St → Hp → Prop) (h0 : Pv 0 σ H) (hl : ∀ i σ H, i ≤ xs.length → Pv i σ H → SqT K H a xs)
    (hs : ∀ i x σ H, xs[i]? = some x → Pv i σ H → g x σ H fun σ2 H2 => tb { D with nx := Pv (i + 1), ct := Pv (i + 1), bk := D.nx } σ2 H2) (hd : ∀ σ H, Pv xs.length σ H → D.nx σ H) : Loop (Itt K a) g tb D σ H := for_tup Pv h0 hl hs hd
theorem Loop.range {lo : Int} {n : Nat} {g : TG} {tb : TS} {D : Ends} {σ : L2.St} {H : Hp} (Pv : Nat → L2.St → Hp → Prop) (h0 : Pv 0 σ H)
    (hs : ∀ i σ H, i < n → Pv i σ H → g (.int (lo + i)) σ H fun σ2 H2 => tb { D with nx := Pv (i + 1), ct := Pv (i + 1), bk := D.nx } σ2 H2) (hd : ∀ σ H, Pv n σ H → D.nx σ H) : Loop (Itr lo n) g tb D σ H := for_range Pv h0 hs hd
theorem Loop.rev {K : PySem.W.Frag} {a : Addr} {xs : List V} {n : Nat} {g : TG} {tb : TS} {D : Ends} {σ : L2.St} {H : Hp} (hn : n = xs.length) (Pv : Nat → L2.St → Hp → Prop) (h0 : Pv 0 σ H) (hl : ∀ i σ H, i ≤ xs.length → Pv i σ H → SqL K H a xs)
    (hs : ∀ i x σ H, xs[xs.length - 1 - i]? = some x → i < xs.length → Pv i σ H → g x σ H fun σ2 H2 => tb { D with nx := Pv (i + 1), ct := Pv (i + 1), bk := D.nx } σ2 H2) (hd : ∀ σ H, Pv xs.length σ H → D.nx σ H) : Loop (Itv K a n) g tb D σ H := by
  subst hn
  refine ⟨fun i m σ H => m = xs.length - i ∧ i ≤ xs.length ∧ Pv i σ H, ⟨xs.length, by simp, Nat.zero_le _, h0⟩, ?_⟩
  rintro i m σ H ⟨rfl, hi, p⟩
  have q := hl i σ H hi p
  by_cases hlt : i < xs.length
  · have hx : xs.length - 1 - i < xs.length := by omega
    refine .inr ⟨⟨hlt, xs, xs[xs.length - 1 - i], q, by simp [hx]⟩, Pv (i + 1), fun σ' H' p' => ⟨xs.length - (i + 1), by omega, rfl, hlt, p'⟩, fun x H' y => ?_⟩
    obtain ⟨e, y⟩ := y
    subst e
    exact hs i x σ _ (y xs q) hlt p
  · have e : i = xs.length := by omega
    subst e
    exact .inl ⟨Nat.le_refl _, hd σ H p⟩
theorem Loop.str {z : Str} {g : TG} {tb : TS} {D : Ends} {σ : L2.St} {H : Hp} (Pv : Nat → L2.St → Hp → Prop) (h0 : Pv 0 σ H)
    (hs : ∀ i c σ H, z.cps[i]? = some c → Pv i σ H → g (.str ⟨#[c]⟩) σ H fun σ2 H2 => tb { D with nx := Pv (i + 1), ct := Pv (i + 1), bk := D.nx } σ2 H2) (hd : ∀ σ H, Pv z.cps.size σ H → D.nx σ H) : Loop (Its z) g tb D σ H := by
  refine ⟨fun i m σ H => m = z.cps.size - i ∧ i ≤ z.cps.size ∧ Pv i σ H, ⟨z.cps.size, by simp, Nat.zero_le _, h0⟩, ?_⟩
  rintro i m σ H ⟨rfl, hi, p⟩
  by_cases hlt : i < z.cps.size
  · refine .inr ⟨hlt, Pv (i + 1), fun σ' H' p' => ⟨z.cps.size - (i + 1), by omega, rfl, hlt, p'⟩, fun x H' y => ?_⟩
    obtain ⟨e, c, hc, ex⟩ := y
    subst e ex
    exact hs i c σ _ hc p
  · have e : i = z.cps.size := by omega
    subst e
    exact .inl ⟨Nat.le_refl _, hd σ H p⟩

theorem int_at {ns : List Int} {i : Nat} {x : V} (h : (ns.map V.int)[i]? = some x) : ∃ z, ns[i]? = some z ∧ x = .int z := by
  rw [List.getElem?_map] at h
  cases e : ns[i]? with
  | none =>
    rw [e] at h
    cases h
  | some z =>
    rw [e] at h
    exact ⟨z, rfl, (Option.some.inj h).symm⟩
theorem at_int {ns : List Int} {i : Nat} {z : Int} (h : ns[i]? = some z) : (ns.map V.int)[i]? = some (.int z) := by
  rw [List.getElem?_map, h]
  rfl
theorem take_snoc {α : Type} {l : List α} {i : Nat} {x : α} (h : l[i]? = some x) : l.take (i + 1) = l.take i ++ [x] := by
  rw [List.take_add_one, h]
  rfl
theorem drop_at {α : Type} {l : List α} {i : Nat} {x : α} (h : l[i]? = some x) : l.drop i = x :: l.drop (i + 1) := by
  obtain ⟨hi, e⟩ := List.getElem?_eq_some_iff.mp h
  rw [List.drop_eq_getElem_cons hi, e]
theorem iteN {c A B : Prop} [Decidable c] (hc : ¬ c) (h : B) : if c then A else B := by
  rw [if_neg hc]
  exact h
theorem iteP {c A B : Prop} [Decidable c] (hc : c) (h : A) : if c then A else B := by
  rw [if_pos hc]
  exact h
/-! ### comprehensions -/
/-- what is made so far stands at D; the source stands; an element may change what it likes but D -/
theorem Cmp.list {K : PySem.W.Frag} {a : Addr} {xs : List V} {g : TG} {tt : TT} {te : TE} {vs : List Nat} {σ : L2.St} {H1 : Hp} {Q : VK} (Pv : Addr → Nat → List V → Hp → Prop)
    (h0 : ∀ D H2, H1 D = none → Same H1 H2 → H2 D = some (.lst []) → Pv D 0 [] H2) (hl : ∀ D i acc H, i ≤ xs.length → Pv D i acc H → SqL K H a xs)
    (hs : ∀ D i x acc H (Nx : Hp → Prop), xs[i]? = some x → acc.length ≤ i → Pv D i acc H → (∀ acc' H', acc'.length ≤ i + 1 → Pv D (i + 1) acc' H' → Nx H') → g x (wipe σ vs) H fun σ2 H2 => wipe σ2 vs = wipe σ vs ∧ tt σ2 H2 fun b H3 =>
      if b = true then te σ2 H3 fun y H4 => ∃ acc, H4 D = some (.lst acc) ∧ acc.length < sizeLine ∧ Nx (upd H4 D (.lst (acc ++ [y]))) else Nx H3) (hd : ∀ D acc H, acc.length ≤ xs.length → Pv D xs.length acc H → Q (.ref D) H) : Cmp (Itl K a) g tt te vs σ H1 Q := fun D nD =>
  lc_list (K := K) (a := a) (xs := xs) (fun i H => ∃ acc, acc.length ≤ i ∧ Pv D i acc H) ⟨[], Nat.zero_le _, h0 D _ nD (same_new nD) upd_same⟩ (fun i H hi ⟨acc, _, p⟩ => hl D i acc H hi p)
    (fun i x H hx ⟨acc, ha, p⟩ => hs D i x acc H _ hx ha p fun acc' H' h1 h2 => ⟨acc', h1, h2⟩) (fun H ⟨acc, ha, p⟩ => hd D acc H ha p)
theorem Cmp.tup {K : PySem.W.Frag} {a : Addr} {xs : List V} {g : TG} {tt : TT} {te : TE} {vs : List Nat} {σ : L2.St} {H1 : Hp} {Q : VK} (Pv : Addr → Nat → List V → Hp → Prop)
    (h0 : ∀ D H2, H1 D = none → Same H1 H2 → H2 D = some (.lst []) → Pv D 0 [] H2) (hl : ∀ D i acc H, i ≤ xs.length → Pv D i acc H → SqT K H a xs)
    (hs : ∀ D i x acc H (Nx : Hp → Prop), xs[i]? = some x → acc.length ≤ i → Pv D i acc H → (∀ acc' H', acc'.length ≤ i + 1 → Pv D (i + 1) acc' H' → Nx H') → g x (wipe σ vs) H fun σ2 H2 => wipe σ2 vs = wipe σ vs ∧ tt σ2 H2 fun b H3 =>
      if b = true then te σ2 H3 fun y H4 => ∃ acc, H4 D = some (.lst acc) ∧ acc.length < sizeLine ∧ Nx (upd H4 D (.lst (acc ++ [y]))) else Nx H3) (hd : ∀ D acc H, acc.length ≤ xs.length → Pv D xs.length acc H → Q (.ref D) H) : Cmp (Itt K a) g tt te vs σ H1 Q := fun D nD =>
  lc_tup (K := K) (a := a) (xs := xs) (fun i H => ∃ acc, acc.length ≤ i ∧ Pv D i acc H) ⟨[], Nat.zero_le _, h0 D _ nD (same_new nD) upd_same⟩ (fun i H hi ⟨acc, _, p⟩ => hl D i acc H hi p)
    (fun i x H hx ⟨acc, ha, p⟩ => hs D i x acc H _ hx ha p fun acc' H' h1 h2 => ⟨acc', h1, h2⟩) (fun H ⟨acc, ha, p⟩ => hd D acc H ha p)
theorem Cmp.range {lo : Int} {n : Nat} {g : TG} {tt : TT} {te : TE} {vs : List Nat} {σ : L2.St} {H1 : Hp} {Q : VK} (Pv : Addr → Nat → List V → Hp → Prop)
    (h0 : ∀ D H2, H1 D = none → Same H1 H2 → H2 D = some (.lst []) → Pv D 0 [] H2)
    (hs : ∀ D i acc H (Nx : Hp → Prop), i < n → acc.length ≤ i → Pv D i acc H → (∀ acc' H', acc'.length ≤ i + 1 → Pv D (i + 1) acc' H' → Nx H') → g (.int (lo + i)) (wipe σ vs) H fun σ2 H2 => wipe σ2 vs = wipe σ vs ∧ tt σ2 H2 fun b H3 =>
      if b = true then te σ2 H3 fun y H4 => ∃ acc, H4 D = some (.lst acc) ∧ acc.length < sizeLine ∧ Nx (upd H4 D (.lst (acc ++ [y]))) else Nx H3) (hd : ∀ D acc H, acc.length ≤ n → Pv D n acc H → Q (.ref D) H) : Cmp (Itr lo n) g tt te vs σ H1 Q := fun D nD =>
  lc_range (lo := lo) (n := n) (fun i H => ∃ acc, acc.length ≤ i ∧ Pv D i acc H) ⟨[], Nat.zero_le _, h0 D _ nD (same_new nD) upd_same⟩
    (fun i H hx ⟨acc, ha, p⟩ => hs D i acc H _ hx ha p fun acc' H' h1 h2 => ⟨acc', h1, h2⟩) (fun H ⟨acc, ha, p⟩ => hd D acc H ha p)
theorem push {D : Addr} {i : Nat} {acc : List V} {y : V} {H4 : Hp} {Nx : Hp → Prop} {PV : List V → Hp → Prop} (hN : ∀ acc' H', acc'.length ≤ i + 1 → PV acc' H' → Nx H') (ha : acc.length ≤ i) (h : H4 D = some (.lst acc)) (hi : i < 1000000)
    (hp : ∀ H5, Off D H4 H5 → H5 D = some (.lst (acc ++ [y])) → PV (acc ++ [y]) H5) : ∃ acc, H4 D = some (.lst acc) ∧ acc.length < sizeLine ∧ Nx (upd H4 D (.lst (acc ++ [y]))) :=
  ⟨acc, h, Nat.lt_of_lt_of_le (Nat.lt_of_le_of_lt ha hi) (by decide), hN _ _ (by rw [List.length_append]; exact Nat.succ_le_succ ha) (hp _ Off.upd upd_same)⟩
/-- elements that change nothing, over a list; with a test -/
theorem Cmp.pureF {K : PySem.W.Frag} {a : Addr} {xs : List V} {j : Nat} {tt : TT} {te : TE} {vs : List Nat} {σ : L2.St} {H1 : Hp} {Q : VK} (p : V → Bool) (f : V → V) (hS : SqL K H1 a xs) (hz : xs.length ≤ 100000) (hw : ∀ x, wipe ((wipe σ vs).set j (some x)) vs = wipe σ vs)
    (ht : ∀ x H2 (R : Bool → Hp → Prop), x ∈ xs → Same H1 H2 → (∀ H3, Same H2 H3 → R (p x) H3) → tt ((wipe σ vs).set j (some x)) H2 R)
    (he : ∀ x H2 (R : VK), x ∈ xs → p x = true → Same H1 H2 → (∀ H3, Same H2 H3 → R (f x) H3) → te ((wipe σ vs).set j (some x)) H2 R)
    (hd : ∀ l H2, H1 l = none → Same H1 H2 → H2 l = some (.lst ((xs.filter p).map f)) → Q (.ref l) H2) : Cmp (Itl K a) (gName j) tt te vs σ H1 Q := by
  refine Cmp.list (xs := xs) (fun D i acc H => H1 D = none ∧ Same H1 H ∧ H D = some (.lst acc) ∧ acc = ((xs.take i).filter p).map f) (fun D H2 nD s2 h2 => ⟨nD, s2, h2, by simp⟩) (fun D i acc H _ ⟨_, s2, _⟩ => s2.seq hS) ?_ ?_
  · rintro D i x acc H Nx hx ha ⟨nD, s2, h2, ea⟩ hN
    have hi : i < xs.length := (List.getElem?_eq_some_iff.mp hx).1
    have hm := List.mem_of_getElem? hx
    refine ⟨hw x, ht x H _ hm s2 fun H3 s3 => ?_⟩
    cases hp : p x with
    | true =>
      rw [if_pos rfl]
      refine he x H3 _ hm hp (s2.trans s3) fun H4 s4 => push hN ha (s4 _ _ (s3 _ _ h2)) (by omega) fun H5 o5 h5 => ⟨nD, Same.off ((s2.trans s3).trans s4) nD o5, h5, ?_⟩
      rw [ea, take_snoc hx, List.filter_append, List.map_append]
      simp [hp]
    | false =>
      rw [if_neg Bool.false_ne_true]
      refine hN acc H3 (Nat.le_succ_of_le ha) ⟨nD, s2.trans s3, s3 _ _ h2, ?_⟩
      rw [ea, take_snoc hx, List.filter_append, List.map_append]
      simp [hp]
  · rintro D acc H _ ⟨nD, s2, h2, ea⟩
    rw [List.take_length] at ea
    exact hd D H nD s2 (ea ▸ h2)
theorem Cmp.pureL {K : PySem.W.Frag} {a : Addr} {xs : List V} {j : Nat} {te : TE} {vs : List Nat} {σ : L2.St} {H1 : Hp} {Q : VK} (f : V → V) (hS : SqL K H1 a xs) (hz : xs.length ≤ 100000) (hw : ∀ x, wipe ((wipe σ vs).set j (some x)) vs = wipe σ vs)
    (he : ∀ x H2 (R : VK), x ∈ xs → Same H1 H2 → (∀ H3, Same H2 H3 → R (f x) H3) → te ((wipe σ vs).set j (some x)) H2 R)
    (hd : ∀ l H2, H1 l = none → Same H1 H2 → H2 l = some (.lst (xs.map f)) → Q (.ref l) H2) : Cmp (Itl K a) (gName j) tYes te vs σ H1 Q :=
  Cmp.pureF (fun _ => true) f hS hz hw (fun x H2 R _ _ h => h H2 (Same.refl H2)) (fun x H2 R hm _ => he x H2 R hm) fun l H2 n s h => hd l H2 n s (by rw [List.filter_eq_self.mpr (fun _ _ => rfl)] at h; exact h)
theorem Cmp.pureRF {lo : Int} {n : Nat} {j : Nat} {tt : TT} {te : TE} {vs : List Nat} {σ : L2.St} {H1 : Hp} {Q : VK} (p : Nat → Bool) (f : Nat → V) (hz : n ≤ 100000) (hw : ∀ x, wipe ((wipe σ vs).set j (some x)) vs = wipe σ vs)
    (ht : ∀ i H2 (R : Bool → Hp → Prop), i < n → Same H1 H2 → (∀ H3, Same H2 H3 → R (p i) H3) → tt ((wipe σ vs).set j (some (.int (lo + (i : Int))))) H2 R)
    (he : ∀ i H2 (R : VK), i < n → p i = true → Same H1 H2 → (∀ H3, Same H2 H3 → R (f i) H3) → te ((wipe σ vs).set j (some (.int (lo + (i : Int))))) H2 R)
    (hd : ∀ l H2, H1 l = none → Same H1 H2 → H2 l = some (.lst (((List.range n).filter p).map f)) → Q (.ref l) H2) : Cmp (Itr lo n) (gName j) tt te vs σ H1 Q := by
  refine Cmp.range (fun D i acc H => H1 D = none ∧ Same H1 H ∧ H D = some (.lst acc) ∧ acc = ((List.range i).filter p).map f) (fun D H2 nD s2 h2 => ⟨nD, s2, h2, by simp⟩) ?_ ?_
  · rintro D i acc H Nx hi ha ⟨nD, s2, h2, ea⟩ hN
    refine ⟨hw _, ht i H _ hi s2 fun H3 s3 => ?_⟩
    cases hp : p i with
    | true =>
      rw [if_pos rfl]
      refine he i H3 _ hi hp (s2.trans s3) fun H4 s4 => push hN ha (s4 _ _ (s3 _ _ h2)) (by omega) fun H5 o5 h5 => ⟨nD, Same.off ((s2.trans s3).trans s4) nD o5, h5, ?_⟩
      rw [ea, List.range_succ, List.filter_append, List.map_append]
      simp [hp]
    | false =>
      rw [if_neg Bool.false_ne_true]
      refine hN acc H3 (Nat.le_succ_of_le ha) ⟨nD, s2.trans s3, s3 _ _ h2, ?_⟩
      rw [ea, List.range_succ, List.filter_append, List.map_append]
      simp [hp]
  · rintro D acc H _ ⟨nD, s2, h2, ea⟩
    exact hd D H nD s2 (ea ▸ h2)
theorem Cmp.pureR {lo : Int} {n : Nat} {j : Nat} {te : TE} {vs : List Nat} {σ : L2.St} {H1 : Hp} {Q : VK} (f : Nat → V) (hz : n ≤ 100000) (hw : ∀ x, wipe ((wipe σ vs).set j (some x)) vs = wipe σ vs)
    (he : ∀ i H2 (R : VK), i < n → Same H1 H2 → (∀ H3, Same H2 H3 → R (f i) H3) → te ((wipe σ vs).set j (some (.int (lo + (i : Int))))) H2 R)
    (hd : ∀ l H2, H1 l = none → Same H1 H2 → H2 l = some (.lst ((List.range n).map f)) → Q (.ref l) H2) : Cmp (Itr lo n) (gName j) tYes te vs σ H1 Q :=
  Cmp.pureRF (fun _ => true) f hz hw (fun x H2 R _ _ h => h H2 (Same.refl H2)) (fun x H2 R hm _ => he x H2 R hm) fun l H2 n s h => hd l H2 n s (by rw [List.filter_eq_self.mpr (fun _ _ => rfl)] at h; exact h)

theorem sq_true {K : PySem.W.Frag} {H : Hp} {l : Addr} {α : Type} {ys : List α} (h : H l = some (.lst (ys.map fun _ => V.bl true))) : SqL K H l ((ys.map fun _ => true).map V.bl) := by
  rw [List.map_map]
  exact seq_of h
theorem all_true {α : Type} : ∀ ys : List α, (ys.map fun _ => true).all id = true
  | [] => rfl
  | _ :: r => all_true r
theorem cut_to (xs : List V) (j : Nat) : cutV xs none (some (j : Int)) = xs.take j := by
  unfold cutV
  rw [HT.sIx_none, HT.sIx_nat, List.drop_zero, Nat.sub_zero]
  by_cases h : j ≤ xs.length
  · rw [Nat.min_eq_left h]
  · rw [Nat.min_eq_right (by omega), List.take_of_length_le (Nat.le_refl _), List.take_of_length_le (by omega)]
theorem cut_from (xs : List V) (j : Nat) : cutV xs (some (j : Int)) none = xs.drop j := by
  unfold cutV
  rw [HT.sIx_none, HT.sIx_nat]
  by_cases h : j ≤ xs.length
  · rw [Nat.min_eq_left h, List.take_of_length_le (by rw [List.length_drop]; omega)]
  · rw [Nat.min_eq_right (by omega), List.drop_eq_nil_of_le (Nat.le_refl _), List.drop_eq_nil_of_le (by omega), List.take_nil]

/-! ### data -/
def pd : V → PyData
  | .bl b => .bool b
  | .int i => .int i
  | .str x => .str x
  | _ => .none
def isPd : V → Bool
  | .bl _ => true
  | .int _ => true
  | .str x => PyData.strOk x
  | .non => true
  | _ => false
theorem dp_pd {K : PySem.W.Frag} {H : Hp} : ∀ {x : V}, isPd x = true → Dp K H x (pd x)
  | .non, _ => .non
  | .bl b, _ => .bl b
  | .int i, _ => .int i
  | .str x, _ => .str x
theorem dpAll_pd {K : PySem.W.Frag} {H : Hp} : ∀ {xs : List V}, xs.all isPd = true → DpAll K H xs (xs.map pd)
  | [], _ => .nil
  | x :: xs, h => by
    rw [List.all_cons, Bool.and_eq_true] at h
    exact .cons (dp_pd h.1) (dpAll_pd h.2)
theorem ints_pd : ∀ ns : List Int, (ns.map V.int).all isPd = true
  | [] => rfl
  | _ :: r => ints_pd r
theorem dp_lst {K : PySem.W.Frag} {H : Hp} {a : Addr} {xs : List V} (h : SqL K H a xs) (hx : xs.all isPd = true) : Dp K H (.ref a) (.list (xs.map pd)) := .lst h (dpAll_pd hx)
theorem dp_tup {K : PySem.W.Frag} {H : Hp} {a : Addr} {xs : List V} (h : SqT K H a xs) (hx : xs.all isPd = true) : Dp K H (.ref a) (.tuple (xs.map pd)) := .tup h (dpAll_pd hx)
theorem pd_lay : ∀ {x : V}, isPd x = true → (pd x).canLay0 = true
  | .non, _ => rfl
  | .bl _, _ => rfl
  | .int _, _ => rfl
  | .str x, h => h
theorem pd_layAll : ∀ {xs : List V}, xs.all isPd = true → PyData.canLayAll0 (xs.map pd) = true
  | [], _ => rfl
  | x :: xs, h => by
    rw [List.all_cons, Bool.and_eq_true] at h
    show ((pd x).canLay0 && PyData.canLayAll0 (xs.map pd)) = true
    rw [pd_lay h.1, pd_layAll h.2]
    rfl
theorem pd_depth : ∀ x : V, (pd x).depth = 0
  | .non => rfl
  | .bl _ => rfl
  | .int _ => rfl
  | .str _ => rfl
  | .byt _ => rfl
  | .flt _ => rfl
  | .ref _ => rfl
  | .ty _ => rfl

theorem pd_depthAll : ∀ xs : List V, PyData.depthAll (xs.map pd) = 0
  | [] => rfl
  | x :: xs => by
    show max (pd x).depth (PyData.depthAll (xs.map pd)) = 0
    rw [pd_depth, pd_depthAll]
    rfl
theorem shaped_lst {xs : List V} (h : xs.all isPd = true) : SeqAt.shaped (.list (xs.map pd)) = true := by
  have e : (PyData.list (xs.map pd)).depth = 1 := by
    show PyData.depthAll (xs.map pd) + 1 = 1
    rw [pd_depthAll]
  show ((PyData.canLayAll0 (xs.map pd)) && decide ((PyData.list (xs.map pd)).depth ≤ 64)) = true
  rw [pd_layAll h, e]
  rfl
theorem shaped_tup {xs : List V} (h : xs.all isPd = true) : SeqAt.shaped (.tuple (xs.map pd)) = true := by
  have e : (PyData.tuple (xs.map pd)).depth = 1 := by
    show PyData.depthAll (xs.map pd) + 1 = 1
    rw [pd_depthAll]
  show ((PyData.canLayAll0 (xs.map pd)) && decide ((PyData.tuple (xs.map pd)).depth ≤ 64)) = true
  rw [pd_layAll h, e]
  rfl
theorem eqvAll_ints : ∀ ns ms : List Int, PyData.eqvAll ((ns.map V.int).map pd) ((ms.map V.int).map pd) = decide (ns = ms)
  | [], [] => rfl
  | [], _ :: _ => rfl
  | _ :: _, [] => rfl
  | a :: r, b :: t => by
    show ((a == b) && PyData.eqvAll ((r.map V.int).map pd) ((t.map V.int).map pd)) = decide (a :: r = b :: t)
    rw [eqvAll_ints r t]
    by_cases h : a = b
    · subst h
      simp
    · simp [h]
theorem eqv_ints (ns ms : List Int) : PyData.eqv (.list ((ns.map V.int).map pd)) (.list ((ms.map V.int).map pd)) = decide (ns = ms) := eqvAll_ints ns ms
/-- == of two lists of ints -/
theorem eq_ints {K : PySem.W.Frag} {H : Hp} {a b : Addr} {ns ms : List Int} {Q : VK} (ha : SqL K H a (ns.map V.int)) (hb : SqL K H b (ms.map V.int)) (q : Q (.bl (decide (ns = ms))) H) : rEqD K (.ref a) (.ref b) H Q :=
  ⟨_, _, dp_lst ha (ints_pd ns), dp_lst hb (ints_pd ms), shaped_lst (ints_pd ns), shaped_lst (ints_pd ms), by rw [eqv_ints]; exact q⟩
theorem ne_ints {K : PySem.W.Frag} {H : Hp} {a b : Addr} {ns ms : List Int} {Q : VK} (ha : SqL K H a (ns.map V.int)) (hb : SqL K H b (ms.map V.int)) (q : Q (.bl (!decide (ns = ms))) H) : rNeD K (.ref a) (.ref b) H Q :=
  ⟨_, _, dp_lst ha (ints_pd ns), dp_lst hb (ints_pd ms), shaped_lst (ints_pd ns), shaped_lst (ints_pd ms), by rw [eqv_ints]; exact q⟩
/-- == of equal data -/
theorem eq_tups {K : PySem.W.Frag} {H : Hp} {a b : Addr} {xs : List V} {Q : VK} (ha : SqT K H a xs) (hb : SqT K H b xs) (hx : xs.all isPd = true) (q : Q (.bl true) H) : rEqD K (.ref a) (.ref b) H Q :=
  ⟨_, _, dp_tup ha hx, dp_tup hb hx, shaped_tup hx, shaped_tup hx, by rw [SeqAt.eqv_refl (.tuple (xs.map pd)) (show PyData.canLayAll0 (xs.map pd) = true from pd_layAll hx)]; exact q⟩

/-- the type of a list, of a tuple, of an int that is told -/
theorem tyv_list {K : PySem.W.Frag} {H : Hp} {a : Addr} {xs : List V} (h : SqL K H a xs) : tyV K "list" (.ref a) H := .inl ⟨rfl, _, h⟩
theorem ty_int {K : PySem.W.Frag} {H : Hp} {i : Int} : TyX K H (.int i) (.type "int") := .base (.int i)
theorem ty_lst {K : PySem.W.Frag} {H : Hp} {a : Addr} {xs : List V} (h : H a = some (.lst xs)) : TyX K H (.ref a) (.type "list") := .base (.lst h)
theorem ty_tup {K : PySem.W.Frag} {H : Hp} {a : Addr} {xs : List V} (h : H a = some (.tup xs)) : TyX K H (.ref a) (.type "tuple") := .base (.tup h)

theorem scal_ii {i j : Int} : scal (.int i) (.int j) = true := rfl
theorem scal_bb {i j : Bool} : scal (.bl i) (.bl j) = true := rfl
theorem scal_ss {i j : Str} : scal (.str i) (.str j) = true := rfl
theorem scal_nn : scal .non .non = true := rfl
theorem scal_ni {j : Int} : scal .non (.int j) = true := rfl
theorem scal_in {j : Int} : scal (.int j) .non = true := rfl
theorem scal_ns {j : Str} : scal .non (.str j) = true := rfl
theorem scal_sn {j : Str} : scal (.str j) .non = true := rfl
theorem scal_is {i : Int} {j : Str} : scal (.int i) (.str j) = true := rfl
theorem scal_si {i : Int} {j : Str} : scal (.str j) (.int i) = true := rfl

/-- isinstance of a thing of a told type and a built-in class -/
theorem isi {K : PySem.W.Frag} {H : Hp} {x : V} {T U : String} {b : Bool} {R : Bool → Prop} (ty : TyX K H x (.type T)) (h : kitB T U = some b) (q : R b) : ∃ (t u : Value), ClsV (.ty U) u ∧ TyX K H x t ∧ ∃ b', PySem.W.kitOne K t u = some b' ∧ R b' :=
  ⟨_, _, .ty U, ty, b, kit_ty h, q⟩

/-! ### list + list, whoever holds them -/
def rCatR : R2 := fun x y H Q => ∃ l b xs zs, x = .ref l ∧ y = .ref b ∧ Rd H l (.lst xs) ∧ Rd H b (.lst zs) ∧ xs.length + zs.length ≤ sizeLine ∧ New H (.lst (xs ++ zs)) fun p H2 => Q (.ref p) H2
theorem op_catS {X : Cx} : OpR X (binaryOp .Add) rCatR := by
  intro pins s σ H x y v u Q I rx ry h
  obtain ⟨l, b, xs, zs, rfl, rfl, hH, hB, hz, q⟩ := h
  cases rx
  cases ry
  obtain ⟨z, its, n, r, e⟩ := (show ObjOk X.prog X.w H s.heap l (.lst xs) from hH.ok I.hok)
  obtain ⟨z2, its2, n2, r2, e2⟩ := (show ObjOk X.prog X.w H s.heap b (.lst zs) from hB.ok I.hok)
  have hl := r.length
  have hl2 := r2.length
  refine PySem.P.add_list e e2 ?_ (by rw [List.size_toArray, List.size_toArray]; omega)
  have ea : its.toArray ++ its2.toArray = (its ++ its2).toArray := by simp
  rw [ea]
  exact ⟨.ref _, _, I.lnew (t' := s.toks) (r.append r2) (by rw [List.length_append]; omega), rfl, q _ I.fresh⟩

end Rb

set_option Elab.async false
set_option linter.all false
set_option maxRecDepth 100000
set_option maxHeartbeats 4000000
namespace K01
open PySem PySem.Spec PyProof.Rows L2 Rb
def topS (i : Nat) : Stmt := PySem.Challenge.pw_roomslaid_k01_words_and_cells.main.body.getD i (.Pass ⟨0, 0, 0, 0⟩)
abbrev s_cells_of : Stmt := topS 1
abbrev s_word_of : Stmt := topS 2
abbrev s_law_cell : Stmt := topS 4
abbrev s_law_begun : Stmt := topS 5
abbrev s_law_draw : Stmt := topS 6
abbrev s_law_whole : Stmt := topS 7
abbrev s_law_big : Stmt := topS 8
abbrev s_law_sum : Stmt := topS 9
abbrev s_law_one : Stmt := topS 10
abbrev s_law : Stmt := topS 11
theorem sc_cells_of : FnScope ["word", "width", "found", "k", "cell"] ["word", "width"] (defScope s_cells_of) := ⟨rfl, rfl, rfl, by decide +kernel, rfl, by decide +kernel, by decide +kernel⟩
theorem sc_word_of : FnScope ["cells", "word", "cell"] ["cells"] (defScope s_word_of) := ⟨rfl, rfl, rfl, by decide +kernel, rfl, by decide +kernel, by decide +kernel⟩
theorem sc_law_cell : FnScope ["_law_script", "_law_k", "_law_number"] ["_law_script", "_law_k"] (defScope s_law_cell) := ⟨rfl, rfl, rfl, by decide +kernel, rfl, by decide +kernel, by decide +kernel⟩
theorem sc_law_begun : FnScope ["_law_cell_here", "_law_rest"] ["_law_cell_here"] (defScope s_law_begun) := ⟨rfl, rfl, rfl, by decide +kernel, rfl, by decide +kernel, by decide +kernel⟩
theorem sc_law_draw : FnScope ["_law_state", "_law_many", "_law_found", "_law_number"] ["_law_state", "_law_many"] (defScope s_law_draw) := ⟨rfl, rfl, rfl, by decide +kernel, rfl, by decide +kernel, by decide +kernel⟩
theorem sc_law_whole : FnScope ["_law_found"] ["_law_found"] (defScope s_law_whole) := ⟨rfl, rfl, rfl, by decide +kernel, rfl, by decide +kernel, by decide +kernel⟩
theorem sc_law_big : FnScope ["_law_state", "_law_way", "_law_number", "_law_k"] ["_law_state"] (defScope s_law_big) := ⟨rfl, rfl, rfl, by decide +kernel, rfl, by decide +kernel, by decide +kernel⟩
theorem sc_law_sum : FnScope ["_law_cells", "_law_total", "_law_worth", "_law_cell_here"] ["_law_cells"] (defScope s_law_sum) := ⟨rfl, rfl, rfl, by decide +kernel, rfl, by decide +kernel, by decide +kernel⟩
theorem sc_law_one : FnScope ["_law_number", "_law_width", "_law_part", "_law_found", "_law_cell_here", "_law_total", "_law_worth", "_law_handed", "_law_told"] ["_law_number", "_law_width", "_law_part"] (defScope s_law_one) := ⟨rfl, rfl, rfl, by decide +kernel, rfl, by decide +kernel, by decide +kernel⟩
theorem sc_law : FnScope ["_law_script", "_law_k", "_law_state", "_law_number", "_law_width"] ["_law_script"] (defScope s_law) := ⟨rfl, rfl, rfl, by decide +kernel, rfl, by decide +kernel, by decide +kernel⟩
local macro_rules | `(tactic| walk_at "rd") => `(tactic| simp only [L2.start, cxOf, tSeq, tAsg, tIfS, tTest, tB, tOp, tUn, tVar, tC, tCB, tCons, tNil, tRet, tRetN, tNext, tDrop, tBM, tBM0, tLst_n, tTup_n, tAnd, tOr, tNot, tAndV, tOrV, tNotV, tIf, tChain, tCall, gName, gTup, gCons, gNil, gUnl, gSub, rI, rI0, rU, rIxL, rIxT, rSlL_n, tSl, tPart, tNoPart, rCatR, rAppend_n, rExtend_n, rPop_n, rClear_n, rSetL_n, tFor_n, tLc_n, iRng1, iRng2, iList, iTup, iRev, rDivmod, rListOf, rTupOf, rLenSeq, rMin2, rMax2, rAll, rAny, rIsi, tNever, tYes, wipe, rEq, rNe, scal_ii, scal_bb, scal_ss, scal_nn, scal_ni, scal_in, scal_ns, scal_sn, scal_is, scal_si,
  List.map_cons, List.map_nil, List.length_cons, List.length_nil, List.replicate, List.nil_append, List.cons_append, List.append_nil, List.getElem?_cons_zero, List.getElem?_cons_succ, List.set_cons_zero, List.set_cons_succ, List.set_nil, Nat.reduceAdd, Nat.reduceSub,
  Option.some.injEq, V.int.injEq, V.ref.injEq, V.bl.injEq, V.str.injEq, V.ty.injEq, List.cons.injEq, and_assoc, and_true, true_and, exists_eq_left, exists_eq_left', exists_and_left, exists_and_right, exists_eq, exists_eq', exists_eq_right, exists_eq_right', if_true, if_false, Bool.false_eq_true, Bool.not_true, Bool.not_false, if_pos, Int.toNat_natCast, decide_eq_true_eq, Bool.not_eq_true', decide_eq_false_iff_not, reduceCtorEq, false_and, and_false, exists_false, exists_const])

/-! ### the law's draws -/
def DSt (H : Hp) (a : Addr) : Prop := ∃ r n c : Int, H a = some (.lst [.int r, .int n, .int c])
def spCell (K : PySem.W.Frag) : Sp := fun vs H Q _ => ∃ (a : Addr) (ns : List Int) (k : Int), vs = [.ref a, .int k] ∧ SqL K H a (ns.map V.int) ∧ 0 ≤ k ∧ k ≤ 1000 ∧ ns.length ≤ 63 ∧ ∀ z, Q (.int z) H
def spBegun : Sp := fun vs H Q _ => ∃ (z : Int), vs = [.int z] ∧ ∀ p H1, H p = none → Same H H1 → DSt H1 p → Q (.ref p) H1
def spDraw : Sp := fun vs H Q _ => ∃ (a : Addr) (m : Int), vs = [.ref a, .int m] ∧ DSt H a ∧ 0 < m ∧ m < 2 ^ 200 ∧ ∀ v H1, 0 ≤ v → v < m → Off a H H1 → DSt H1 a → Q (.int v) H1
section
variable {P : Program} {w : World} {K : PySem.W.Frag} {mg : Str → Option Value} {base : Heap}
theorem ok_cell {f : Addr} {fd : FuncData} (F : Fun K "_law_cell" "_law_cell" s_law_cell f fd) (z_len : mg "len" = none) : FnOk P w K mg base CX0 1 f fd ["_law_script", "_law_k"] (spCell K) := by
  refine F.ok sc_law_cell (fun vs H Q E h => ?_) (fun cdv A outer s H vs Q E hr h => ?_)
  · obtain ⟨a, ns, k, rfl, _⟩ := h
    rfl
  · obtain ⟨a, ns, k, rfl, hS, hk, hk2, hl, q⟩ := h
    refine ⟨_, (pss_cons (ps_if (pt_cmpR op_lt (pv 1) (pe_callB call_lenR (by rfl) z_len (by decide +kernel) (pa_cons (pv 0) pa_nil)) (nomark _)) (pss_one (ps_ret (pe_ix ix_list (pv 0) (pv 1) (fun _ _ => rfl)))) pss_nil)
      (pss_cons (ps_set (i := 2) sc_law_cell.nd rfl (by first | exact Or.inl rfl | exact Or.inr rfl) (pe_op op_add (pe_op op_mul (pv 1) pe_int) pe_int))
      (pss_cons (ps_if (pt_cmpR op_gt (pe_callB call_lenR (by rfl) z_len (by decide +kernel) (pa_cons (pv 0) pa_nil)) pe_int (nomark _)) (pss_one (ps_set (i := 2) sc_law_cell.nd rfl (by first | exact Or.inl rfl | exact Or.inr rfl) (pe_op op_modN (pe_op op_add (pe_op op_mul (pe_ix ix_list (pv 0) (pe_op op_modN (pe_op op_mul (pv 1) pe_int) (pe_callB call_lenR (by rfl) z_len (by decide +kernel) (pa_cons (pv 0) pa_nil))) (fun _ _ => rfl)) pe_int) (pe_op op_mul (pv 1) pe_int)) pe_int))) pss_nil)
      (pss_one (ps_ret (pe_op op_modN (pe_op op_mulX (pv 2) (pv 2)) pe_int)))))), ?_⟩
    walk_at "rd"
    have atk : ∀ j : Int, 0 ≤ j → j < (ns.map V.int).length → ∃ z, atI (ns.map V.int) j = some (V.int z) := fun j h0 h1 => by
      have hj : j.toNat < ns.length := by rw [List.length_map] at h1; omega
      refine ⟨ns[j.toNat], at_of (j := j.toNat) (by omega) ?_⟩
      rw [List.getElem?_map, List.getElem?_eq_getElem hj]
      rfl
    refine ⟨_, .inl hS, ite2 (fun c => ?_) (fun c => ?_)⟩
    · obtain ⟨z, hz⟩ := atk k hk c
      exact ⟨_, hS, _, hz, q z⟩
    · refine ⟨.inr ⟨by decide, by decide⟩, _, .inl hS, ite2 (fun c2 => ?_) (fun c2 => ?_)⟩
      · have m1 := Int.fmod_nonneg_of_pos (k * 7) c2
        have m2 := Int.fmod_lt_of_pos (k * 7) c2
        obtain ⟨z, hz⟩ := atk _ m1 m2
        refine ⟨.inr ⟨by decide, by decide⟩, _, .inl hS, by omega, _, hS, _, hz, _, rfl, .inr ⟨by decide, by decide⟩, .inr ⟨by decide, by decide⟩, by decide, ?_, by decide, q _⟩
        have p1 := Int.fmod_nonneg_of_pos (z * 48271 + k * 7919) (show (0 : Int) < 2147483647 by decide)
        have p2 := Int.fmod_lt_of_pos (z * 48271 + k * 7919) (show (0 : Int) < 2147483647 by decide)
        exact mulx_ok (a := 40) (b := 40) (by omega) (by omega) (by decide)
      · exact ⟨mulx_ok (a := 40) (b := 40) (by omega) (by omega) (by decide), by decide, q _⟩
theorem ok_begun {f : Addr} {fd : FuncData} (F : Fun K "_law_begun" "_law_begun" s_law_begun f fd) : FnOk P w K mg base CX0 1 f fd ["_law_cell_here"] spBegun := by
  refine F.ok sc_law_begun (fun vs H Q E h => ?_) (fun cdv A outer s H vs Q E hr h => ?_)
  · obtain ⟨z, rfl, _⟩ := h
    rfl
  · obtain ⟨z, rfl, q⟩ := h
    refine ⟨_, (pss_cons (ps_set (i := 1) sc_law_begun.nd rfl (by first | exact Or.inl rfl | exact Or.inr rfl) pe_int)
      (pss_cons (ps_if (pt_cmpR op_ge (pv 0) (pe_op op_pow pe_int pe_int) (nomark _)) (pss_one (ps_set (i := 1) sc_law_begun.nd rfl (by first | exact Or.inl rfl | exact Or.inr rfl) (pv 0))) pss_nil)
      (pss_one (ps_ret (pe_lst (pa_cons (pv 1) (pa_cons pe_int (pa_cons (pe_op op_modN (pv 0) pe_int) pa_nil)))))))), ?_⟩
    walk_at "rd"
    refine ⟨⟨by decide, by decide, by decide⟩, ite2 (fun c => ?_) (fun c => ?_)⟩
    all_goals exact ⟨by decide, by decide, New.intro fun p H1 np s1 h1 => q p H1 np s1 ⟨_, _, _, h1⟩⟩
theorem ok_draw {f : Addr} {fd : FuncData} (F : Fun K "_law_draw" "_law_draw" s_law_draw f fd) : FnOk P w K mg base CX0 1 f fd ["_law_state", "_law_many"] spDraw := by
  refine F.ok sc_law_draw (fun vs H Q E h => ?_) (fun cdv A outer s H vs Q E hr h => ?_)
  · obtain ⟨a, m, rfl, _⟩ := h
    rfl
  · obtain ⟨a, m, rfl, ⟨r, n, c, h0⟩, hm, hm2, q⟩ := h
    refine ⟨_, (pss_cons (ps_if (pt_cmpR op_gt (pe_ix ix_list (pv 0) pe_int (fun _ _ => rfl)) pe_int (nomark _)) (pss_cons (ps_set (i := 2) sc_law_draw.nd rfl (by first | exact Or.inl rfl | exact Or.inr rfl) (pe_op op_modN (pe_ix ix_list (pv 0) pe_int (fun _ _ => rfl)) (pv 1)))
      (pss_cons (ps_asg (pe_op op_fdivW (pe_ix ix_list (pv 0) pe_int (fun _ _ => rfl)) (pv 1)) (pg_sub (pv 0) pe_int set_list))
      (pss_one (ps_ret (pv 2))))) pss_nil)
      (pss_cons (ps_asg (pe_op op_add (pe_ix ix_list (pv 0) pe_int (fun _ _ => rfl)) pe_int) (pg_sub (pv 0) pe_int set_list))
      (pss_cons (ps_set (i := 3) sc_law_draw.nd rfl (by first | exact Or.inl rfl | exact Or.inr rfl) (pe_op op_modN (pe_op op_add (pe_op op_mul (pe_ix ix_list (pv 0) pe_int (fun _ _ => rfl)) pe_int) (pe_op op_mul (pe_ix ix_list (pv 0) pe_int (fun _ _ => rfl)) pe_int)) pe_int))
      (pss_cons (ps_set (i := 3) sc_law_draw.nd rfl (by first | exact Or.inl rfl | exact Or.inr rfl) (pe_op op_modN (pe_op op_add (pe_op op_mulX (pv 3) (pv 3)) (pe_op op_mul (pe_ix ix_list (pv 0) pe_int (fun _ _ => rfl)) pe_int)) pe_int))
      (pss_one (ps_ret (pe_op op_modN (pe_op op_modN (pe_op op_mulX (pv 3) (pv 3)) pe_int) (pv 1)))))))), ?_⟩
    walk_at "rd"
    have sq : ∀ {H1 : Hp} {r n c : Int}, H1 a = some (.lst [.int r, .int n, .int c]) → SqL K H1 a [.int r, .int n, .int c] := fun h => seq_of h
    refine ⟨_, sq h0, _, rfl, _, rfl, ite2 (fun d => ?_) (fun d => ?_)⟩
    · refine ⟨_, sq h0, _, rfl, _, rfl, by omega, _, sq h0, _, rfl, _, rfl, wide_div (b := 200) hm (by omega) (by decide) (by decide), _, h0, _, rfl, Upd.intro fun H2 o2 h2 => ?_⟩
      exact q _ _ (Int.fmod_nonneg_of_pos _ hm) (Int.fmod_lt_of_pos _ hm) o2 ⟨_, _, _, h2⟩
    · refine ⟨_, sq h0, _, rfl, _, rfl, _, h0, _, rfl, Upd.intro fun H1 o1 h1 => ?_⟩
      have p1 := Int.fmod_nonneg_of_pos (c * 48271 + (n + 1) * 1299709) (show (0 : Int) < 2147483647 by decide)
      have p2 := Int.fmod_lt_of_pos (c * 48271 + (n + 1) * 1299709) (show (0 : Int) < 2147483647 by decide)
      refine ⟨_, sq h1, _, rfl, _, rfl, .inr ⟨by decide, by decide⟩, _, sq h1, _, rfl, _, rfl, .inr ⟨by decide, by decide⟩, by decide, mulx_ok (a := 40) (b := 40) (by omega) (by omega) (by decide), _, sq h1, _, rfl, _, rfl, .inr ⟨by decide, by decide⟩, by decide, ?_⟩
      have q1 := Int.fmod_nonneg_of_pos ((c * 48271 + (n + 1) * 1299709).fmod 2147483647 * (c * 48271 + (n + 1) * 1299709).fmod 2147483647 + (n + 1) * 7919) (show (0 : Int) < 2147483629 by decide)
      have q2 := Int.fmod_lt_of_pos ((c * 48271 + (n + 1) * 1299709).fmod 2147483647 * (c * 48271 + (n + 1) * 1299709).fmod 2147483647 + (n + 1) * 7919) (show (0 : Int) < 2147483629 by decide)
      refine ⟨mulx_ok (a := 40) (b := 40) (by omega) (by omega) (by decide), by decide, by omega, ?_⟩
      exact q _ _ (Int.fmod_nonneg_of_pos _ hm) (Int.fmod_lt_of_pos _ hm) o1 ⟨_, _, _, h1⟩
end

/-! ### the mathematics -/
def cellsI (n : Int) (k : Nat) : List Int := (List.range k).map fun i => n / 256 ^ i % 256
theorem cellsI_succ (n : Int) (k : Nat) : cellsI n (k + 1) = cellsI n k ++ [n / 256 ^ k % 256] := by
  unfold cellsI
  rw [List.range_succ, List.map_append]
  rfl
theorem cellsI_len (n : Int) (k : Nat) : (cellsI n k).length = k := by
  unfold cellsI
  rw [List.length_map, List.length_range]
theorem cellsI_in {n : Int} {k : Nat} {c : Int} (h : c ∈ cellsI n k) : 0 ≤ c ∧ c < 256 := by
  unfold cellsI at h
  obtain ⟨i, _, rfl⟩ := List.mem_map.mp h
  exact ⟨Int.emod_nonneg _ (by decide), Int.emod_lt_of_pos _ (by decide)⟩
def val : List Int → Int
  | [] => 0
  | c :: r => val r * 256 + c
theorem val_snoc (c : Int) : ∀ l : List Int, val (l ++ [c]) = val l + c * 256 ^ l.length
  | [] => by
    show (0 : Int) * 256 + c = 0 + c * 1
    omega
  | a :: r => by
    show val (r ++ [c]) * 256 + a = (val r * 256 + a) + c * 256 ^ (r.length + 1)
    rw [val_snoc c r, Int.pow_succ, Int.add_mul, Int.mul_assoc]
    omega
theorem pow_pos256 (k : Nat) : (0 : Int) < 256 ^ k := Int.pow_pos (by decide)
theorem pow_le256 {i j : Nat} (h : i ≤ j) : (256 : Int) ^ i ≤ 256 ^ j := by
  rcases Nat.lt_or_eq_of_le h with h | h
  · exact Int.le_of_lt (Int.pow_lt_pow_of_lt (by decide) h)
  · rw [h]
    exact Int.le_refl _
theorem val_cells (n : Int) : ∀ k : Nat, val (cellsI n k) = n % 256 ^ k
  | 0 => by
    show (0 : Int) = n % 1
    omega
  | k + 1 => by
    rw [cellsI_succ, val_snoc, val_cells n k, cellsI_len, Int.pow_succ]
    have h := Int.emod_emod_of_dvd n (show (256 : Int) ^ k ∣ 256 ^ k * 256 from ⟨256, rfl⟩)
    have e1 := Int.emod_add_mul_ediv (n % (256 ^ k * 256)) (256 ^ k)
    have e2 : n % (256 ^ k * 256) / 256 ^ k = n / 256 ^ k % 256 := by
      have p := pow_pos256 k
      generalize (256 : Int) ^ k = b at p
      have q1 := Int.emod_add_mul_ediv n (b * 256)
      have q2 : n / (b * 256) = n / b / 256 := (Int.ediv_ediv_of_nonneg (by omega)).symm
      have q3 : n % (b * 256) = n - b * 256 * (n / b / 256) := by rw [← q2]; omega
      rw [q3, Int.mul_assoc, Int.sub_mul_ediv_left n _ (by omega : b ≠ 0)]
      omega
    rw [e2, h] at e1
    rw [Int.mul_comm (n / 256 ^ k % 256)]
    omega
theorem val_nonneg : ∀ {l : List Int}, (∀ c ∈ l, 0 ≤ c) → 0 ≤ val l
  | [], _ => by decide
  | a :: r, h => by
    have h1 := val_nonneg (l := r) fun c hc => h c (List.mem_cons_of_mem _ hc)
    have h2 := h a List.mem_cons_self
    show 0 ≤ val r * 256 + a
    omega
theorem val_lt : ∀ {l : List Int}, (∀ c ∈ l, 0 ≤ c ∧ c < 256) → val l < 256 ^ l.length
  | [], _ => by decide
  | a :: r, h => by
    have h1 := val_lt (l := r) fun c hc => h c (List.mem_cons_of_mem _ hc)
    have h2 := h a List.mem_cons_self
    show val r * 256 + a < 256 ^ (r.length + 1)
    rw [Int.pow_succ]
    omega
theorem shl_or {x c : Int} (hx : 0 ≤ x) (h0 : 0 ≤ c) (h1 : c < 256) : Builtin.bitOr (x * 2 ^ (8 : Int).toNat) c = x * 256 + c := or_low (k := 8) hx h0 h1
/-! ### the promises -/
def spCellsOf : Sp := fun vs H Q _ => ∃ (n : Int) (k : Nat), vs = [.int n, .int (k : Int)] ∧ k ≤ 64 ∧ ∀ p H1, H p = none → Same H H1 → H1 p = some (.lst ((cellsI n k).map V.int)) → Q (.ref p) H1
def spWordOf (K : PySem.W.Frag) : Sp := fun vs H Q _ => ∃ (a : Addr) (cs : List Int), vs = [.ref a] ∧ SqL K H a (cs.map V.int) ∧ (∀ c ∈ cs, 0 ≤ c ∧ c < 256) ∧ cs.length ≤ 64 ∧ Q (.int (val cs)) H
def spWhole (K : PySem.W.Frag) : Sp := fun vs H Q _ => ∃ (n : Int), vs = [.int n] ∧ Q (.bl true) H
def spSum (K : PySem.W.Frag) : Sp := fun vs H Q _ => ∃ (a : Addr) (cs : List Int), vs = [.ref a] ∧ SqL K H a (cs.map V.int) ∧ (∀ c ∈ cs, 0 ≤ c ∧ c < 256) ∧ cs.length ≤ 64 ∧ ∀ p H1, H p = none → Same H H1 → H1 p = some (.lst [.int (val cs), .int (256 ^ cs.length)]) → Q (.ref p) H1
def spBig : Sp := fun vs H Q _ => ∃ (a : Addr), vs = [.ref a] ∧ DSt H a ∧ ∀ z H1, Off a H H1 → DSt H1 a → Q (.int z) H1
def spOne : Sp := fun vs H Q _ => ∃ (n : Int) (k j : Nat), vs = [.int n, .int (k : Int), .int (j : Int)] ∧ k ≤ 64 ∧ j ≤ k ∧ ∀ H1, Same H H1 → Q (.bl true) H1
def spLaw (K : PySem.W.Frag) : Sp := fun vs H Q _ => ∃ (a : Addr) (ns : List Int), vs = [.ref a] ∧ SqL K H a (ns.map V.int) ∧ ns.length ≤ 63 ∧ ∀ H', Q (.bl true) H'
section
variable {P : Program} {w : World} {K : PySem.W.Frag} {mg : Str → Option Value} {base : Heap}
theorem ok_cellsOf {f : Addr} {fd : FuncData} (F : Fun K "cells_of" "cells_of" s_cells_of f fd) (z_range : mg "range" = none) (z_divmod : mg "divmod" = none) : FnOk P w K mg base CX0 1 f fd ["word", "width"] spCellsOf := by
  refine F.ok sc_cells_of (fun vs H Q E h => ?_) (fun cdv A outer s H vs Q E hr h => ?_)
  · obtain ⟨n, k, rfl, _⟩ := h
    rfl
  · obtain ⟨n, k, rfl, hk, q⟩ := h
    refine ⟨_, (pss_cons (ps_set (i := 2) sc_cells_of.nd rfl (by first | exact Or.inl rfl | exact Or.inr rfl) (pe_lst pa_nil))
      (pss_cons (ps_for PassesOwn.never rfl (pi_range1 (by rfl) z_range (pa_cons (pv 1) pa_nil)) (pg_name (i := 3) sc_cells_of.nd rfl (by first | exact Or.inl rfl | exact Or.inr rfl)) (pss_cons (ps_asg (pe_callB call_divmodR (by rfl) z_divmod (by decide +kernel) (pa_cons (pv 0) (pa_cons pe_int pa_nil))) (pg_tup rfl (pgs_cons (pg_name (i := 0) sc_cells_of.nd rfl (by first | exact Or.inl rfl | exact Or.inr rfl)) (pgs_cons (pg_name (i := 4) sc_cells_of.nd rfl (by first | exact Or.inl rfl | exact Or.inr rfl)) pgs_nil))))
      (pss_one (ps_expr (pe_bm PySem.F.plainAttrs_list PySem.F.slot_list_append PySem.F.type_list_append mt_append (pv 2) (pa_cons (pv 4) pa_nil))))))
      (pss_one (ps_ret (pv 2))))), ?_⟩
    walk_at "rd"
    refine ⟨Nat.zero_le _, New.intro fun p H0 np s0 h0 => ⟨by omega, by omega, Loop.range (fun i σ H1 => ∃ y z, σ = [some (.int (n / 256 ^ i)), some (.int (k : Int)), some (.ref p), y, z] ∧ Same H H1 ∧ H1 p = some (.lst ((cellsI n i).map V.int)))
      ⟨none, none, ?_, s0, h0⟩ ?_ ?_⟩⟩
    · rw [show n / 256 ^ 0 = n from Int.ediv_one n]
    · rintro i σ H1 hi ⟨y, z, rfl, s1, h1⟩
      walk_at "rd"
      refine ⟨⟨by decide, by decide⟩, New.intro fun t H2 nt s2 h2 => ⟨_, seqT_of h2, rfl, _, _, rfl, _, _, rfl, rfl, tyv_list (seq_of (s2 _ _ h1)), _, s2 _ _ h1, small1000 (by rw [List.length_map, cellsI_len]; omega), Upd.intro fun H3 o3 h3 => ⟨?_, ?_, ?_⟩⟩⟩
      · rw [Int.pow_succ, ← Int.ediv_ediv_of_nonneg (Int.le_of_lt (pow_pos256 i))]
      · exact Same.off (s1.trans s2) np o3
      · rw [h3, cellsI_succ, List.map_append]
        rfl
    · rintro σ H1 ⟨y, z, rfl, s1, h1⟩
      walk_at "rd"
      exact q p H1 np s1 h1
theorem ok_wordOf {f : Addr} {fd : FuncData} (F : Fun K "word_of" "word_of" s_word_of f fd) (z_reversed : mg "reversed" = none) : FnOk P w K mg base CX0 1 f fd ["cells"] (spWordOf K) := by
  refine F.ok sc_word_of (fun vs H Q E h => ?_) (fun cdv A outer s H vs Q E hr h => ?_)
  · obtain ⟨a, cs, rfl, _⟩ := h
    rfl
  · obtain ⟨a, cs, rfl, hS, hc, hl, q⟩ := h
    refine ⟨_, (pss_cons (ps_set (i := 1) sc_word_of.nd rfl (by first | exact Or.inl rfl | exact Or.inr rfl) pe_int)
      (pss_cons (ps_for PassesOwn.never rfl (pi_reversed (by rfl) z_reversed (pa_cons (pv 0) pa_nil)) (pg_name (i := 2) sc_word_of.nd rfl (by first | exact Or.inl rfl | exact Or.inr rfl)) (pss_one (ps_set (i := 1) sc_word_of.nd rfl (by first | exact Or.inl rfl | exact Or.inr rfl) (pe_op op_or (pe_op op_shlW (pv 1) pe_int) (pv 2)))))
      (pss_one (ps_ret (pv 1))))), ?_⟩
    walk_at "rd"
    refine ⟨_, hS, Loop.rev rfl (fun i σ H1 => ∃ y, H1 = H ∧ σ = [some (.ref a), some (.int (val (cs.drop (cs.length - i)))), y]) ⟨none, rfl, ?_⟩ ?_ ?_ ?_⟩
    · rw [Nat.sub_zero, List.drop_length]
      rfl
    · rintro i σ H1 _ ⟨y, rfl, rfl⟩
      exact hS
    · rintro i x σ H1 hx hi ⟨y, rfl, rfl⟩
      walk_at "rd"
      rw [List.length_map] at hx hi
      obtain ⟨z, hz, rfl⟩ := int_at hx
      have hm := hc z (List.mem_of_getElem? hz)
      have hv := val_nonneg (l := cs.drop (cs.length - i)) fun c h => (hc c (List.mem_of_mem_drop h)).1
      have hu := val_lt (l := cs.drop (cs.length - i)) fun c h => hc c (List.mem_of_mem_drop h)
      have hp : (256 : Int) ^ (cs.drop (cs.length - i)).length ≤ 256 ^ 64 := pow_le256 (by rw [List.length_drop]; omega)
      refine ⟨shl_ok (j := 8) (n := 600) (by omega) (by decide), _, rfl, ?_⟩
      rw [shl_or hv hm.1 hm.2, show cs.length - (i + 1) = cs.length - 1 - i by omega, drop_at hz, show cs.length - 1 - i + 1 = cs.length - i by omega]
      rfl
    · rintro σ H1 ⟨y, rfl, rfl⟩
      walk_at "rd"
      rw [List.length_map, Nat.sub_self]
      exact q
theorem ok_whole {f : Addr} {fd : FuncData} (F : Fun K "_law_whole" "_law_whole" s_law_whole f fd) (z_isinstance : mg "isinstance" = none) (z_int : mg "int" = none) (z_bool : mg "bool" = none) : FnOk P w K mg base CX0 1 f fd ["_law_found"] (spWhole K) := by
  refine F.ok sc_law_whole (fun vs H Q E h => ?_) (fun cdv A outer s H vs Q E hr h => ?_)
  · obtain ⟨n, rfl, _⟩ := h
    rfl
  · obtain ⟨n, rfl, q⟩ := h
    refine ⟨_, (pss_one (ps_ret (pe_and (pe_callB call_isi (by rfl) z_isinstance (by decide +kernel) (pa_cons (pv 0) (pa_cons (pe_bltn (v := V.ty "int") (u := Value.type "int") (by rfl) z_int (by decide +kernel) rfl) pa_nil))) (pe_one (pe_not (pe_callB call_isi (by rfl) z_isinstance (by decide +kernel) (pa_cons (pv 0) (pa_cons (pe_bltn (v := V.ty "bool") (u := Value.type "bool") (by rfl) z_bool (by decide +kernel) rfl) pa_nil)))))))), ?_⟩
    walk_at "rd"
    exact isi (b := true) ty_int (by decide +kernel) (iteT (isi (b := false) ty_int (by decide +kernel) q))
theorem ok_sum {f : Addr} {fd : FuncData} (F : Fun K "_law_sum" "_law_sum" s_law_sum f fd) : FnOk P w K mg base CX0 1 f fd ["_law_cells"] (spSum K) := by
  refine F.ok sc_law_sum (fun vs H Q E h => ?_) (fun cdv A outer s H vs Q E hr h => ?_)
  · obtain ⟨a, cs, rfl, _⟩ := h
    rfl
  · obtain ⟨a, cs, rfl, hS, hc, hl, q⟩ := h
    refine ⟨_, (pss_cons (ps_set (i := 1) sc_law_sum.nd rfl (by first | exact Or.inl rfl | exact Or.inr rfl) pe_int)
      (pss_cons (ps_set (i := 2) sc_law_sum.nd rfl (by first | exact Or.inl rfl | exact Or.inr rfl) pe_int)
      (pss_cons (ps_for PassesOwn.never rfl (pi_list (pv 0)) (pg_name (i := 3) sc_law_sum.nd rfl (by first | exact Or.inl rfl | exact Or.inr rfl)) (pss_cons (ps_set (i := 1) sc_law_sum.nd rfl (by first | exact Or.inl rfl | exact Or.inr rfl) (pe_op op_add (pv 1) (pe_op op_mulX (pv 3) (pv 2))))
      (pss_one (ps_set (i := 2) sc_law_sum.nd rfl (by first | exact Or.inl rfl | exact Or.inr rfl) (pe_op op_mul (pv 2) pe_int)))))
      (pss_one (ps_ret (pe_lst (pa_cons (pv 1) (pa_cons (pv 2) pa_nil)))))))), ?_⟩
    walk_at "rd"
    refine ⟨⟨_, hS⟩, Loop.list (xs := cs.map V.int) (fun i σ H1 => ∃ y, H1 = H ∧ σ = [some (.ref a), some (.int (val (cs.take i))), some (.int (256 ^ i)), y]) ⟨none, rfl, rfl⟩ ?_ ?_ ?_⟩
    · rintro i σ H1 _ ⟨y, rfl, rfl⟩
      exact hS
    · rintro i x σ H1 hx ⟨y, rfl, rfl⟩
      walk_at "rd"
      obtain ⟨z, hz, rfl⟩ := int_at hx
      have hm := hc z (List.mem_of_getElem? hz)
      have hi : i < cs.length := (List.getElem?_eq_some_iff.mp hz).1
      have p1 := pow_pos256 i
      have p2 : (256 : Int) ^ i ≤ 256 ^ 64 := pow_le256 (by omega)
      refine ⟨z, rfl, mulx_ok (a := 20) (b := 600) (by omega) (by omega) (by decide), .inr ⟨by decide, by decide⟩, ?_, rfl⟩
      rw [take_snoc hz, val_snoc, List.length_take, Nat.min_eq_left (by omega)]
    · rintro σ H1 ⟨y, rfl, rfl⟩
      walk_at "rd"
      rw [List.length_map, List.take_length]
      exact ⟨by decide, New.intro fun p H2 np s2 h2 => q p H2 np s2 h2⟩
theorem ok_big {f : Addr} {fd : FuncData} (F : Fun K "_law_big" "_law_big" s_law_big f fd) (z_max : mg "max" = none) (z_range : mg "range" = none) (D_law_draw : Dn P w K mg base CX0 1 "_law_draw" ["_law_state", "_law_many"] spDraw) : FnOk P w K mg base CX0 2 f fd ["_law_state"] spBig := by
  refine F.ok sc_law_big (fun vs H Q E h => ?_) (fun cdv A outer s H vs Q E hr h => ?_)
  · obtain ⟨a, rfl, _⟩ := h
    rfl
  · obtain ⟨a, rfl, d0, q⟩ := h
    refine ⟨_, (pss_cons (ps_set (i := 1) sc_law_big.nd rfl (by first | exact Or.inl rfl | exact Or.inr rfl) (pe_cd D_law_draw (hr.mono (by decide)) (by rfl) pass0 (pa_cons (pv 0) (pa_cons pe_int pa_nil))))
      (pss_cons (ps_set (i := 2) sc_law_big.nd rfl (by first | exact Or.inl rfl | exact Or.inr rfl) (pe_ix ix_list (pe_lst (pa_cons (pe_cd D_law_draw (hr.mono (by decide)) (by rfl) pass0 (pa_cons (pv 0) (pa_cons pe_int pa_nil))) (pa_cons pe_int (pa_cons pe_int (pa_cons pe_int pa_nil))))) (pe_callB (call_max2R rfl) (by rfl) z_max (by decide +kernel) (pa_cons pe_int (pa_cons (pe_op op_sub (pv 1) pe_int) pa_nil))) (fun _ _ => rfl)))
      (pss_cons (ps_if (pt_cmpR op_eq (pv 1) pe_int (nomark _)) (pss_cons (ps_set (i := 2) sc_law_big.nd rfl (by first | exact Or.inl rfl | exact Or.inr rfl) pe_int)
      (pss_one (ps_for PassesOwn.never rfl (pi_range1 (by rfl) z_range (pa_cons (pe_op op_add pe_int (pe_cd D_law_draw (hr.mono (by decide)) (by rfl) pass0 (pa_cons (pv 0) (pa_cons pe_int pa_nil)))) pa_nil)) (pg_name (i := 3) sc_law_big.nd rfl (by first | exact Or.inl rfl | exact Or.inr rfl)) (pss_one (ps_set (i := 2) sc_law_big.nd rfl (by first | exact Or.inl rfl | exact Or.inr rfl) (pe_op op_add (pe_op op_mul (pv 2) pe_int) (pe_cd D_law_draw (hr.mono (by decide)) (by rfl) pass0 (pa_cons (pv 0) (pa_cons pe_int pa_nil))))))))) pss_nil)
      (pss_cons (ps_if (pt_cmpR op_eq (pe_cd D_law_draw (hr.mono (by decide)) (by rfl) pass0 (pa_cons (pv 0) (pa_cons pe_int pa_nil))) pe_int (nomark _)) (pss_one (ps_set (i := 2) sc_law_big.nd rfl (by first | exact Or.inl rfl | exact Or.inr rfl) (pe_op op_sub pe_int (pv 2)))) pss_nil)
      (pss_one (ps_ret (pv 2))))))), ?_⟩
    walk_at "rd"
    refine ⟨a, 5, rfl, d0, by decide, by decide, fun v H1 v0 v1 o1 d1 => ?_⟩
    walk_at "rd"
    refine ⟨a, 300, rfl, d1, by decide, by decide, fun v2 H2 v20 v21 o2 d2 => ?_⟩
    walk_at "rd"
    have tail : ∀ (z : Int) H3, Off a H H3 → DSt H3 a → spDraw [V.ref a, V.int 3] H3 (fun x H1 => scal x (V.int 0) = true ∧ if x = V.int 0 then Q (V.int (0 - z)) H1 else Q (V.int z) H1) E0 := fun z H3 o3 d3 => by
      refine ⟨a, 3, rfl, d3, by decide, by decide, fun v4 H4 v40 v41 o4 d4 => ⟨rfl, ite2 (fun _ => ?_) (fun _ => ?_)⟩⟩
      · exact q _ _ (o3.trans o4) d4
      · exact q _ _ (o3.trans o4) d4
    have pick : ∃ z, atI [V.int v2, V.int 256, V.int 65535, V.int 0] (if v - 1 > 0 then v - 1 else 0) = some (V.int z) := by
      have hv : v = 0 ∨ v = 1 ∨ v = 2 ∨ v = 3 ∨ v = 4 := by omega
      rcases hv with e | e | e | e | e
      all_goals
        subst e
        exact ⟨_, rfl⟩
    obtain ⟨z, hz⟩ := pick
    refine ⟨by decide, New.intro fun p H3 np s3 h3 => ⟨_, seq_of h3, _, hz, ?_⟩⟩
    have o3 : Off a H H3 := (o1.trans o2).trans (Off.of s3)
    have d3 : DSt H3 a := let ⟨r, n, c, h⟩ := d2; ⟨r, n, c, s3 _ _ h⟩
    refine ite2 (fun e => ?_) (fun e => ?_)
    · refine ⟨a, 65, rfl, d3, by decide, by decide, fun v4 H4 v40 v41 o4 d4 => ?_⟩
      refine ⟨_, rfl, by omega, by omega, Loop.range (fun i σ H5 => ∃ y m, σ = [some (.ref a), some (.int v), some (.int m), y] ∧ Off a H H5 ∧ DSt H5 a) ⟨none, _, rfl, o3.trans o4, d4⟩ ?_ ?_⟩
      · rintro i σ H5 hi ⟨y, m, rfl, o5, d5⟩
        walk_at "rd"
        refine ⟨.inr ⟨by decide, by decide⟩, a, 256, rfl, d5, by decide, by decide, fun v6 H6 v60 v61 o6 d6 => ?_⟩
        walk_at "rd"
        exact ⟨o5.trans o6, d6⟩
      · rintro σ H5 ⟨y, m, rfl, o5, d5⟩
        walk_at "rd"
        exact tail m H5 o5 d5
    · walk_at "rd"
      exact tail _ _ o3 d3
theorem ok_one {f : Addr} {fd : FuncData} (F : Fun K "_law_one" "_law_one" s_law_one f fd) (z_isinstance : mg "isinstance" = none) (z_list : mg "list" = none) (z_len : mg "len" = none) (z_all : mg "all" = none)
    (D_cells_of : Dn P w K mg base CX0 1 "cells_of" ["word", "width"] spCellsOf) (D_word_of : Dn P w K mg base CX0 1 "word_of" ["cells"] (spWordOf K)) (D_law_sum : Dn P w K mg base CX0 1 "_law_sum" ["_law_cells"] (spSum K)) (D_law_whole : Dn P w K mg base CX0 1 "_law_whole" ["_law_found"] (spWhole K)) : FnOk P w K mg base CX0 2 f fd ["_law_number", "_law_width", "_law_part"] spOne := by
  refine F.ok sc_law_one (fun vs H Q E h => ?_) (fun cdv A outer s H vs Q E hr h => ?_)
  · obtain ⟨n, k, j, rfl, _⟩ := h
    rfl
  · obtain ⟨n, k, j, rfl, hk, hj, q⟩ := h
    refine ⟨_, (pss_cons (ps_set (i := 3) sc_law_one.nd rfl (by first | exact Or.inl rfl | exact Or.inr rfl) (pe_cd D_cells_of (hr.mono (by decide)) (by rfl) pass0 (pa_cons (pv 0) (pa_cons (pv 1) pa_nil))))
      (pss_cons (ps_if (PW.pt (pw_or (pt_not (pt_val (pe_callB call_isi (by rfl) z_isinstance (by decide +kernel) (pa_cons (pv 3) (pa_cons (pe_bltn (v := V.ty "list") (u := Value.type "list") (by rfl) z_list (by decide +kernel) rfl) pa_nil))))) (pw_or1 (pt_cmpR op_ne (pe_callB call_lenR (by rfl) z_len (by decide +kernel) (pa_cons (pv 3) pa_nil)) (pv 1) (nomark _))))) (pss_one (ps_ret pe_bl)) pss_nil)
      (pss_cons (ps_if (pt_not (pt_val (pe_callB (cr_all rfl) (by rfl) z_all (by decide +kernel) (pa_cons (pe_lc (own := [("_law_cell_here", 4)]) (g := gName 4) (tt := tYes) rfl sc_law_one.nd (pi_list (pv 3)) (blkOk_by (own := [("_law_cell_here", 4)]) (N := ["_law_number", "_law_width", "_law_part", "_law_found", "_law_cell_here", "_law_total", "_law_worth", "_law_handed", "_law_told"]) (sc := defScope s_law_one) (by decide +kernel)) (fun _ _ _ _ _ => pg_name (i := 4) sc_law_one.nd rfl (Or.inl rfl)) (fun _ _ _ _ _ => pts_nil) (fun _ _ _ _ _ => (pe_and (pe_cd D_law_whole (hr.mono (by decide)) (by rfl) pass0 (pa_cons (pv 4) pa_nil)) (pe_one (pe_chain op_le op_lt pe_int (pv 4) pe_int))))) pa_nil)))) (pss_one (ps_ret pe_bl)) pss_nil)
      (pss_cons (ps_asg (pe_cd D_law_sum (hr.mono (by decide)) (by rfl) pass0 (pa_cons (pv 3) pa_nil)) (pg_unl rfl (pgs_cons (pg_name (i := 5) sc_law_one.nd rfl (by first | exact Or.inl rfl | exact Or.inr rfl)) (pgs_cons (pg_name (i := 6) sc_law_one.nd rfl (by first | exact Or.inl rfl | exact Or.inr rfl)) pgs_nil))))
      (pss_cons (ps_if (pt_cmpR op_ne (pe_op op_modN (pe_op op_sub (pv 0) (pv 5)) (pv 6)) pe_int (nomark _)) (pss_one (ps_ret pe_bl)) pss_nil)
      (pss_cons (ps_set (i := 7) sc_law_one.nd rfl (by first | exact Or.inl rfl | exact Or.inr rfl) (pe_callTy call_listR (by rfl) z_list (by decide +kernel) (pa_cons (pv 3) pa_nil)))
      (pss_cons (ps_set (i := 8) sc_law_one.nd rfl (by first | exact Or.inl rfl | exact Or.inr rfl) (pe_cd D_word_of (hr.mono (by decide)) (by rfl) pass0 (pa_cons (pv 7) pa_nil)))
      (pss_cons (ps_if (PW.pt (pw_or (pt_not (pt_val (pe_cd D_law_whole (hr.mono (by decide)) (by rfl) pass0 (pa_cons (pv 8) pa_nil)))) (pw_or (pt_cmpR op_ne (pv 8) (pv 5) (nomark _)) (pw_or1 (pt_cmpR (op_neD hr.units) (pv 7) (pv 3) (nomark _)))))) (pss_one (ps_ret pe_bl)) pss_nil)
      (pss_cons (ps_if (PW.pt (pw_or (pt_cmpR op_ne (pe_cd D_word_of (hr.mono (by decide)) (by rfl) pass0 (pa_cons (pe_slice sl_list (pv 3) po_none (po_some (pv 2))) pa_nil)) (pe_ix ix_list (pe_cd D_law_sum (hr.mono (by decide)) (by rfl) pass0 (pa_cons (pe_slice sl_list (pv 3) po_none (po_some (pv 2))) pa_nil)) pe_int (fun _ _ => rfl)) (nomark _)) (pw_or1 (pt_cmpR op_ne (pe_cd D_word_of (hr.mono (by decide)) (by rfl) pass0 (pa_cons (pe_lst pa_nil) pa_nil)) pe_int (nomark _))))) (pss_one (ps_ret pe_bl)) pss_nil)
      (pss_cons (ps_expr (pe_bm PySem.F.plainAttrs_list PySem.F.slot_list_append PySem.F.type_list_append mt_append (pv 3) (pa_cons pe_int pa_nil)))
      (pss_one (ps_ret (pe_cmpR (op_eqD hr.units) (pe_cd D_cells_of (hr.mono (by decide)) (by rfl) pass0 (pa_cons (pv 0) (pa_cons (pv 1) pa_nil))) (pv 7) (nomark _)))))))))))))), ?_⟩
    walk_at "rd"
    refine ⟨n, k, rfl, hk, fun p H1 np s1 h1 => ?_⟩
    walk_at "rd"
    refine isi (b := true) (ty_lst h1) (by decide +kernel) (iteN (by decide) ⟨_, .inl (seq_of h1), iteN (by rw [List.length_map, cellsI_len]; exact fun h => h rfl) ⟨⟨_, seq_of h1⟩, Cmp.pureL (fun _ => .bl true) (seq_of h1) (by rw [List.length_map, cellsI_len]; omega) (fun _ => rfl) ?_ ?_⟩⟩)
    · rintro x H2 R hx s2 hR
      obtain ⟨z, hz, rfl⟩ := List.mem_map.mp hx
      have hm := cellsI_in hz
      walk_at "rd"
      exact ⟨z, rfl, _, rfl, iteT (iteP hm.1 (by rw [decide_eq_true hm.2]; exact hR H2 (Same.refl H2)))⟩
    · rintro l H2 nl s2 h2
      walk_at "rd"
      have hin : ∀ c ∈ cellsI n k, 0 ≤ c ∧ c < 256 := fun c hc => cellsI_in hc
      have hlen := cellsI_len n k
      have P1 := s2 _ _ h1
      refine ⟨_, sq_true h2, iteN (by rw [all_true]; decide) ⟨p, _, rfl, seq_of P1, hin, by omega, fun u H3 nu s3 h3 => ?_⟩⟩
      refine ⟨u, rfl, _, seq_of h3, rfl, _, _, rfl, _, _, rfl, rfl, _, rfl, _, rfl, by have := pow_pos256 (cellsI n k).length; omega, iteN (fun h => h ?_) ?_⟩
      · rw [val_cells, hlen, Int.fmod_eq_emod_of_nonneg _ (Int.le_of_lt (pow_pos256 k)), Int.sub_emod, Int.emod_emod, Int.sub_self, Int.zero_emod]
      have P3 := s3 _ _ P1
      refine ⟨_, .inl (seq_of P3), New.intro fun d H4 nd s4 h4 => ⟨d, _, rfl, seq_of h4, hin, by omega, ?_⟩⟩
      have P4 := s4 _ _ P3
      refine ⟨_, rfl, _, rfl, iteN (by decide) ⟨rfl, iteN (fun h => h rfl) (ne_ints (seq_of h4) (seq_of P4) ⟨_, rfl, ?_⟩)⟩⟩
      refine iteN (by rw [decide_eq_true rfl]; decide) ⟨_, seq_of P4, New.intro fun e H5 ne s5 h5 => ?_⟩
      rw [cut_to, ← List.map_take] at h5
      have tin : ∀ c ∈ (cellsI n k).take j, 0 ≤ c ∧ c < 256 := fun c hc => cellsI_in (List.mem_of_mem_take hc)
      have tlen : ((cellsI n k).take j).length ≤ 64 := by rw [List.length_take]; omega
      have P5 := s5 _ _ P4
      refine ⟨e, _, rfl, seq_of h5, tin, tlen, _, seq_of P5, New.intro fun g H6 ng s6 h6 => ?_⟩
      rw [cut_to, ← List.map_take] at h6
      refine ⟨g, _, rfl, seq_of h6, tin, tlen, fun t H7 nt s7 h7 => ⟨t, rfl, _, seq_of h7, _, rfl, rfl, iteN (fun h => h rfl) ⟨by decide, New.intro fun m H8 nm s8 h8 => ?_⟩⟩⟩
      have P8 := s8 _ _ (s7 _ _ (s6 _ _ P5))
      have D8 := s8 _ _ (s7 _ _ (s6 _ _ (s5 _ _ h4)))
      refine ⟨m, [], rfl, seq_of h8, fun c hc => (nomatch hc), by decide, rfl, iteN (fun h => h rfl) ⟨tyv_list (seq_of P8), _, P8, small1000 (by rw [List.length_map]; omega), Upd.intro fun H9 o9 h9 => ?_⟩⟩
      have npd : d ≠ p := fun e => by
        subst e
        rw [P3] at nd
        cases nd
      have D9 := o9 _ _ npd D8
      refine ⟨n, k, rfl, hk, fun x Ha nx sa ha => eq_ints (seq_of ha) (seq_of (sa _ _ D9)) ?_⟩
      rw [decide_eq_true rfl]
      refine q Ha ?_
      have S8 : Same H H8 := s1.trans (s2.trans (s3.trans (s4.trans (s5.trans (s6.trans (s7.trans s8))))))
      exact (Same.off S8 np o9).trans sa
theorem ok_law {f : Addr} {fd : FuncData} (F : Fun K "law" "law" s_law f fd) (z_len : mg "len" = none) (z_max : mg "max" = none) (z_min : mg "min" = none) (z_range : mg "range" = none)
    (D_law_cell : Dn P w K mg base CX0 1 "_law_cell" ["_law_script", "_law_k"] (spCell K)) (D_law_begun : Dn P w K mg base CX0 1 "_law_begun" ["_law_cell_here"] spBegun) (D_law_draw : Dn P w K mg base CX0 1 "_law_draw" ["_law_state", "_law_many"] spDraw)
    (D_law_big : Dn P w K mg base CX0 2 "_law_big" ["_law_state"] spBig) (D_law_one : Dn P w K mg base CX0 2 "_law_one" ["_law_number", "_law_width", "_law_part"] spOne) : FnOk P w K mg base CX0 3 f fd ["_law_script"] (spLaw K) := by
  refine F.ok sc_law (fun vs H Q E h => ?_) (fun cdv A outer s H vs Q E hr h => ?_)
  · obtain ⟨a, ns, rfl, _⟩ := h
    rfl
  · obtain ⟨a, ns, rfl, hS, hl, q⟩ := h
    refine ⟨_, (pss_cons (ps_for PassesOwn.never rfl (pi_range1 (by rfl) z_range (pa_cons (pe_callB (call_max2R rfl) (by rfl) z_max (by decide +kernel) (pa_cons pe_int (pa_cons (pe_callB (call_min2R rfl) (by rfl) z_min (by decide +kernel) (pa_cons pe_int (pa_cons (pe_callB call_lenR (by rfl) z_len (by decide +kernel) (pa_cons (pv 0) pa_nil)) pa_nil))) pa_nil))) pa_nil)) (pg_name (i := 1) sc_law.nd rfl (by first | exact Or.inl rfl | exact Or.inr rfl)) (pss_cons (ps_set (i := 2) sc_law.nd rfl (by first | exact Or.inl rfl | exact Or.inr rfl) (pe_cd D_law_begun (hr.mono (by decide)) (by rfl) pass0 (pa_cons (pe_cd D_law_cell (hr.mono (by decide)) (by rfl) pass0 (pa_cons (pv 0) (pa_cons (pv 1) pa_nil))) pa_nil)))
      (pss_cons (ps_set (i := 3) sc_law.nd rfl (by first | exact Or.inl rfl | exact Or.inr rfl) (pe_cd D_law_big (hr.mono (by decide)) (by rfl) pass0 (pa_cons (pv 2) pa_nil)))
      (pss_cons (ps_set (i := 4) sc_law.nd rfl (by first | exact Or.inl rfl | exact Or.inr rfl) (pe_ix ix_list (pe_lst (pa_cons pe_int (pa_cons pe_int (pa_cons pe_int (pa_cons (pe_op op_add pe_int (pe_cd D_law_draw (hr.mono (by decide)) (by rfl) pass0 (pa_cons (pv 2) (pa_cons pe_int pa_nil)))) pa_nil))))) (pe_cd D_law_draw (hr.mono (by decide)) (by rfl) pass0 (pa_cons (pv 2) (pa_cons pe_int pa_nil))) (fun _ _ => rfl)))
      (pss_one (ps_if (pt_not (pt_val (pe_cd D_law_one (hr.mono (by decide)) (by rfl) pass0 (pa_cons (pv 3) (pa_cons (pv 4) (pa_cons (pe_cd D_law_draw (hr.mono (by decide)) (by rfl) pass0 (pa_cons (pv 2) (pa_cons (pe_op op_add (pv 4) pe_int) pa_nil))) pa_nil)))))) (pss_one (ps_ret pe_bl)) pss_nil))))))
      (pss_one (ps_ret pe_bl))), ?_⟩
    walk_at "rd"
    have hb : ∀ L : Int, 0 ≤ L → 1 ≤ (if (if L < 8 then L else 8) > 1 then if L < 8 then L else 8 else 1) ∧ (if (if L < 8 then L else 8) > 1 then if L < 8 then L else 8 else 1) ≤ 8 := fun L h => by
      split <;> split <;> omega
    obtain ⟨b1, b2⟩ := hb ((ns.map V.int).length : Int) (Int.natCast_nonneg _)
    refine ⟨_, .inl hS, ?_⟩
    generalize (if (if ((ns.map V.int).length : Int) < 8 then ((ns.map V.int).length : Int) else 8) > 1 then if ((ns.map V.int).length : Int) < 8 then ((ns.map V.int).length : Int) else 8 else 1) = M at b1 b2 ⊢
    refine ⟨by omega, by omega, Loop.range (fun i σ H1 => ∃ x1 x2 x3 x4, σ = [some (.ref a), x1, x2, x3, x4] ∧ Same H H1) ⟨none, none, none, none, rfl, Same.refl H⟩ ?_ ?_⟩
    · rintro i σ H1 hi ⟨x1, x2, x3, x4, rfl, s1⟩
      walk_at "rd"
      refine ⟨a, ns, _, rfl, s1.seq hS, by omega, by omega, hl, fun z => ?_⟩
      walk_at "rd"
      refine ⟨z, rfl, fun t H2 nt s2 d2 => ?_⟩
      walk_at "rd"
      refine ⟨t, rfl, d2, fun n H3 o3 d3 => ?_⟩
      walk_at "rd"
      refine ⟨t, 64, rfl, d3, by decide, by decide, fun v H4 v0 v1 o4 d4 => ?_⟩
      walk_at "rd"
      refine ⟨by decide, New.intro fun g H5 ng s5 h5 => ?_⟩
      have d5 : DSt H5 t := let ⟨r, n, c, h⟩ := d4; ⟨r, n, c, s5 _ _ h⟩
      refine ⟨t, 4, rfl, d5, by decide, by decide, fun v6 H6 v60 v61 o6 d6 => ?_⟩
      walk_at "rd"
      obtain ⟨r, nn, c, hd5⟩ := id d5
      have h6 : H6 g = some (.lst [.int 1, .int 4, .int 64, .int (1 + v)]) := o6 _ _ (fun e => by
        subst e
        obtain ⟨r, n, c, h⟩ := d4
        rw [ng] at h
        cases h) h5
      have pick : ∃ k : Nat, k ≤ 64 ∧ atI [V.int 1, V.int 4, V.int 64, V.int (1 + v)] v6 = some (V.int (k : Int)) := by
        have hv : v6 = 0 ∨ v6 = 1 ∨ v6 = 2 ∨ v6 = 3 := by omega
        rcases hv with e | e | e | e
        · subst e; exact ⟨1, by decide, rfl⟩
        · subst e; exact ⟨4, by decide, rfl⟩
        · subst e; exact ⟨64, by decide, rfl⟩
        · subst e
          refine ⟨(1 + v).toNat, by omega, ?_⟩
          rw [Int.toNat_of_nonneg (by omega)]
          rfl
      obtain ⟨k, hk, hk2⟩ := pick
      refine ⟨_, seq_of h6, _, hk2, _, rfl, t, (k : Int) + 1, rfl, d6, by omega, by omega, fun v7 H7 v70 v71 o7 d7 => ?_⟩
      walk_at "rd"
      refine ⟨n, k, v7.toNat, by rw [Int.toNat_of_nonneg v70], hk, by omega, fun H8 s8 => ⟨_, rfl, iteN (by decide) ?_⟩⟩
      exact (Same.off (Same.off (s1.trans s2) (s1.free nt) (o3.trans (o4.trans (Off.of s5)))) (s1.free nt) (o6.trans o7)).trans s8
    · rintro σ H1 ⟨x1, x2, x3, x4, rfl, s1⟩
      walk_at "rd"
      exact q H1
end
theorem all_mk {l : PySem.W.OpenLaw} {w : World} {K : PySem.W.Frag} {h : Heap} {mg : Str → Option Value} {fa f_law_cell f_law_begun f_law_draw f_cells_of f_word_of f_law_whole f_law_sum f_law_big f_law_one f_law : Addr} (X : K.In h) (G : h.Ns mainGlobals mg) (hfa : mg "law" = some (.ref fa))
    {od_law_cell an_law_cell : Option Addr} {sl_law_cell : Array (Option Value)} {oc_law_cell kV_law_cell dc_law_cell pm_law_cell cd_law_cell ct_law_cell : Value}
    (a_law_cell : PySem.W.nsIn K mainGlobals "_law_cell" = some (some (.ref f_law_cell))) (l_law_cell : K.lookup f_law_cell = some ⟨oc_law_cell, od_law_cell, .func (PySem.W.fnOf "_law_cell" "_law_cell" (defArgs s_law_cell) (defBody s_law_cell) (defScope s_law_cell) .none kV_law_cell dc_law_cell pm_law_cell an_law_cell cd_law_cell ct_law_cell), sl_law_cell⟩) (c_law_cell : PySem.W.codeIn K cd_law_cell "_law_cell" = true) (k_law_cell : PySem.W.keepIn K (.ref f_law_cell) = true)
    {od_law_begun an_law_begun : Option Addr} {sl_law_begun : Array (Option Value)} {oc_law_begun kV_law_begun dc_law_begun pm_law_begun cd_law_begun ct_law_begun : Value}
    (a_law_begun : PySem.W.nsIn K mainGlobals "_law_begun" = some (some (.ref f_law_begun))) (l_law_begun : K.lookup f_law_begun = some ⟨oc_law_begun, od_law_begun, .func (PySem.W.fnOf "_law_begun" "_law_begun" (defArgs s_law_begun) (defBody s_law_begun) (defScope s_law_begun) .none kV_law_begun dc_law_begun pm_law_begun an_law_begun cd_law_begun ct_law_begun), sl_law_begun⟩) (c_law_begun : PySem.W.codeIn K cd_law_begun "_law_begun" = true) (k_law_begun : PySem.W.keepIn K (.ref f_law_begun) = true)
    {od_law_draw an_law_draw : Option Addr} {sl_law_draw : Array (Option Value)} {oc_law_draw kV_law_draw dc_law_draw pm_law_draw cd_law_draw ct_law_draw : Value}
    (a_law_draw : PySem.W.nsIn K mainGlobals "_law_draw" = some (some (.ref f_law_draw))) (l_law_draw : K.lookup f_law_draw = some ⟨oc_law_draw, od_law_draw, .func (PySem.W.fnOf "_law_draw" "_law_draw" (defArgs s_law_draw) (defBody s_law_draw) (defScope s_law_draw) .none kV_law_draw dc_law_draw pm_law_draw an_law_draw cd_law_draw ct_law_draw), sl_law_draw⟩) (c_law_draw : PySem.W.codeIn K cd_law_draw "_law_draw" = true) (k_law_draw : PySem.W.keepIn K (.ref f_law_draw) = true)
    {od_cells_of an_cells_of : Option Addr} {sl_cells_of : Array (Option Value)} {oc_cells_of kV_cells_of dc_cells_of pm_cells_of cd_cells_of ct_cells_of : Value}
    (a_cells_of : PySem.W.nsIn K mainGlobals "cells_of" = some (some (.ref f_cells_of))) (l_cells_of : K.lookup f_cells_of = some ⟨oc_cells_of, od_cells_of, .func (PySem.W.fnOf "cells_of" "cells_of" (defArgs s_cells_of) (defBody s_cells_of) (defScope s_cells_of) .none kV_cells_of dc_cells_of pm_cells_of an_cells_of cd_cells_of ct_cells_of), sl_cells_of⟩) (c_cells_of : PySem.W.codeIn K cd_cells_of "cells_of" = true) (k_cells_of : PySem.W.keepIn K (.ref f_cells_of) = true)
    {od_word_of an_word_of : Option Addr} {sl_word_of : Array (Option Value)} {oc_word_of kV_word_of dc_word_of pm_word_of cd_word_of ct_word_of : Value}
    (a_word_of : PySem.W.nsIn K mainGlobals "word_of" = some (some (.ref f_word_of))) (l_word_of : K.lookup f_word_of = some ⟨oc_word_of, od_word_of, .func (PySem.W.fnOf "word_of" "word_of" (defArgs s_word_of) (defBody s_word_of) (defScope s_word_of) .none kV_word_of dc_word_of pm_word_of an_word_of cd_word_of ct_word_of), sl_word_of⟩) (c_word_of : PySem.W.codeIn K cd_word_of "word_of" = true) (k_word_of : PySem.W.keepIn K (.ref f_word_of) = true)
    {od_law_whole an_law_whole : Option Addr} {sl_law_whole : Array (Option Value)} {oc_law_whole kV_law_whole dc_law_whole pm_law_whole cd_law_whole ct_law_whole : Value}
    (a_law_whole : PySem.W.nsIn K mainGlobals "_law_whole" = some (some (.ref f_law_whole))) (l_law_whole : K.lookup f_law_whole = some ⟨oc_law_whole, od_law_whole, .func (PySem.W.fnOf "_law_whole" "_law_whole" (defArgs s_law_whole) (defBody s_law_whole) (defScope s_law_whole) .none kV_law_whole dc_law_whole pm_law_whole an_law_whole cd_law_whole ct_law_whole), sl_law_whole⟩) (c_law_whole : PySem.W.codeIn K cd_law_whole "_law_whole" = true) (k_law_whole : PySem.W.keepIn K (.ref f_law_whole) = true)
    {od_law_sum an_law_sum : Option Addr} {sl_law_sum : Array (Option Value)} {oc_law_sum kV_law_sum dc_law_sum pm_law_sum cd_law_sum ct_law_sum : Value}
    (a_law_sum : PySem.W.nsIn K mainGlobals "_law_sum" = some (some (.ref f_law_sum))) (l_law_sum : K.lookup f_law_sum = some ⟨oc_law_sum, od_law_sum, .func (PySem.W.fnOf "_law_sum" "_law_sum" (defArgs s_law_sum) (defBody s_law_sum) (defScope s_law_sum) .none kV_law_sum dc_law_sum pm_law_sum an_law_sum cd_law_sum ct_law_sum), sl_law_sum⟩) (c_law_sum : PySem.W.codeIn K cd_law_sum "_law_sum" = true) (k_law_sum : PySem.W.keepIn K (.ref f_law_sum) = true)
    {od_law_big an_law_big : Option Addr} {sl_law_big : Array (Option Value)} {oc_law_big kV_law_big dc_law_big pm_law_big cd_law_big ct_law_big : Value}
    (a_law_big : PySem.W.nsIn K mainGlobals "_law_big" = some (some (.ref f_law_big))) (l_law_big : K.lookup f_law_big = some ⟨oc_law_big, od_law_big, .func (PySem.W.fnOf "_law_big" "_law_big" (defArgs s_law_big) (defBody s_law_big) (defScope s_law_big) .none kV_law_big dc_law_big pm_law_big an_law_big cd_law_big ct_law_big), sl_law_big⟩) (c_law_big : PySem.W.codeIn K cd_law_big "_law_big" = true) (k_law_big : PySem.W.keepIn K (.ref f_law_big) = true)
    {od_law_one an_law_one : Option Addr} {sl_law_one : Array (Option Value)} {oc_law_one kV_law_one dc_law_one pm_law_one cd_law_one ct_law_one : Value}
    (a_law_one : PySem.W.nsIn K mainGlobals "_law_one" = some (some (.ref f_law_one))) (l_law_one : K.lookup f_law_one = some ⟨oc_law_one, od_law_one, .func (PySem.W.fnOf "_law_one" "_law_one" (defArgs s_law_one) (defBody s_law_one) (defScope s_law_one) .none kV_law_one dc_law_one pm_law_one an_law_one cd_law_one ct_law_one), sl_law_one⟩) (c_law_one : PySem.W.codeIn K cd_law_one "_law_one" = true) (k_law_one : PySem.W.keepIn K (.ref f_law_one) = true)
    {od_law an_law : Option Addr} {sl_law : Array (Option Value)} {oc_law kV_law dc_law pm_law cd_law ct_law : Value}
    (a_law : PySem.W.nsIn K mainGlobals "law" = some (some (.ref f_law))) (l_law : K.lookup f_law = some ⟨oc_law, od_law, .func (PySem.W.fnOf "law" "law" (defArgs s_law) (defBody s_law) (defScope s_law) .none kV_law dc_law pm_law an_law cd_law ct_law), sl_law⟩) (c_law : PySem.W.codeIn K cd_law "law" = true) (k_law : PySem.W.keepIn K (.ref f_law) = true)
    (n_all : PySem.W.nsIn K mainGlobals "all" = some none)
    (n_bool : PySem.W.nsIn K mainGlobals "bool" = some none)
    (n_divmod : PySem.W.nsIn K mainGlobals "divmod" = some none)
    (n_int : PySem.W.nsIn K mainGlobals "int" = some none)
    (n_isinstance : PySem.W.nsIn K mainGlobals "isinstance" = some none)
    (n_len : PySem.W.nsIn K mainGlobals "len" = some none)
    (n_list : PySem.W.nsIn K mainGlobals "list" = some none)
    (n_max : PySem.W.nsIn K mainGlobals "max" = some none)
    (n_min : PySem.W.nsIn K mainGlobals "min" = some none)
    (n_range : PySem.W.nsIn K mainGlobals "range" = some none)
    (n_reversed : PySem.W.nsIn K mainGlobals "reversed" = some none)
    : ∃ fd : FuncData, (∀ (s : Shared) (v : Value), BindsTo s fd ⟨[v], []⟩ [("_law_script", v)]) ∧ ∀ base : Heap, K.In base → base.Ns mainGlobals mg → FnOk l.prog w K mg base CX0 3 fa fd ["_law_script"] (spLaw K) := by
  have e := hfa.symm.trans (PySem.W.mg_of X G a_law)
  cases e
  have F_law_cell := fun_mk (st := s_law_cell) l_law_cell c_law_cell k_law_cell
  have F_law_begun := fun_mk (st := s_law_begun) l_law_begun c_law_begun k_law_begun
  have F_law_draw := fun_mk (st := s_law_draw) l_law_draw c_law_draw k_law_draw
  have F_cells_of := fun_mk (st := s_cells_of) l_cells_of c_cells_of k_cells_of
  have F_word_of := fun_mk (st := s_word_of) l_word_of c_word_of k_word_of
  have F_law_whole := fun_mk (st := s_law_whole) l_law_whole c_law_whole k_law_whole
  have F_law_sum := fun_mk (st := s_law_sum) l_law_sum c_law_sum k_law_sum
  have F_law_big := fun_mk (st := s_law_big) l_law_big c_law_big k_law_big
  have F_law_one := fun_mk (st := s_law_one) l_law_one c_law_one k_law_one
  have F_law := fun_mk (st := s_law) l_law c_law k_law
  have z_all : mg "all" = none := PySem.W.mg_none_of X G n_all
  have z_bool : mg "bool" = none := PySem.W.mg_none_of X G n_bool
  have z_divmod : mg "divmod" = none := PySem.W.mg_none_of X G n_divmod
  have z_int : mg "int" = none := PySem.W.mg_none_of X G n_int
  have z_isinstance : mg "isinstance" = none := PySem.W.mg_none_of X G n_isinstance
  have z_len : mg "len" = none := PySem.W.mg_none_of X G n_len
  have z_list : mg "list" = none := PySem.W.mg_none_of X G n_list
  have z_max : mg "max" = none := PySem.W.mg_none_of X G n_max
  have z_min : mg "min" = none := PySem.W.mg_none_of X G n_min
  have z_range : mg "range" = none := PySem.W.mg_none_of X G n_range
  have z_reversed : mg "reversed" = none := PySem.W.mg_none_of X G n_reversed
  refine ⟨PySem.W.fnOf "law" "law" (defArgs s_law) (defBody s_law) (defScope s_law) .none kV_law dc_law pm_law an_law cd_law ct_law, fun s v => .of_eq rfl, fun base _ _ => ?_⟩
  have D_law_cell : Dn l.prog w K mg base CX0 1 "_law_cell" ["_law_script", "_law_k"] (spCell K) := ⟨⟨_, _, ok_cell F_law_cell z_len, PySem.W.mg_of X G a_law_cell, k_law_cell, F_law_cell.binds (ps := ["_law_script", "_law_k"]) fun _ _ _ _ _ _ us hl => match us, hl with | [_, _], _ => rfl⟩⟩
  have D_law_begun : Dn l.prog w K mg base CX0 1 "_law_begun" ["_law_cell_here"] spBegun := ⟨⟨_, _, ok_begun F_law_begun, PySem.W.mg_of X G a_law_begun, k_law_begun, F_law_begun.binds (ps := ["_law_cell_here"]) fun _ _ _ _ _ _ us hl => match us, hl with | [_], _ => rfl⟩⟩
  have D_law_draw : Dn l.prog w K mg base CX0 1 "_law_draw" ["_law_state", "_law_many"] spDraw := ⟨⟨_, _, ok_draw F_law_draw, PySem.W.mg_of X G a_law_draw, k_law_draw, F_law_draw.binds (ps := ["_law_state", "_law_many"]) fun _ _ _ _ _ _ us hl => match us, hl with | [_, _], _ => rfl⟩⟩
  have D_cells_of : Dn l.prog w K mg base CX0 1 "cells_of" ["word", "width"] spCellsOf := ⟨⟨_, _, ok_cellsOf F_cells_of z_range z_divmod, PySem.W.mg_of X G a_cells_of, k_cells_of, F_cells_of.binds (ps := ["word", "width"]) fun _ _ _ _ _ _ us hl => match us, hl with | [_, _], _ => rfl⟩⟩
  have D_word_of : Dn l.prog w K mg base CX0 1 "word_of" ["cells"] (spWordOf K) := ⟨⟨_, _, ok_wordOf F_word_of z_reversed, PySem.W.mg_of X G a_word_of, k_word_of, F_word_of.binds (ps := ["cells"]) fun _ _ _ _ _ _ us hl => match us, hl with | [_], _ => rfl⟩⟩
  have D_law_whole : Dn l.prog w K mg base CX0 1 "_law_whole" ["_law_found"] (spWhole K) := ⟨⟨_, _, ok_whole F_law_whole z_isinstance z_int z_bool, PySem.W.mg_of X G a_law_whole, k_law_whole, F_law_whole.binds (ps := ["_law_found"]) fun _ _ _ _ _ _ us hl => match us, hl with | [_], _ => rfl⟩⟩
  have D_law_sum : Dn l.prog w K mg base CX0 1 "_law_sum" ["_law_cells"] (spSum K) := ⟨⟨_, _, ok_sum F_law_sum, PySem.W.mg_of X G a_law_sum, k_law_sum, F_law_sum.binds (ps := ["_law_cells"]) fun _ _ _ _ _ _ us hl => match us, hl with | [_], _ => rfl⟩⟩
  have D_law_big : Dn l.prog w K mg base CX0 2 "_law_big" ["_law_state"] spBig := ⟨⟨_, _, ok_big F_law_big z_max z_range D_law_draw, PySem.W.mg_of X G a_law_big, k_law_big, F_law_big.binds (ps := ["_law_state"]) fun _ _ _ _ _ _ us hl => match us, hl with | [_], _ => rfl⟩⟩
  have D_law_one : Dn l.prog w K mg base CX0 2 "_law_one" ["_law_number", "_law_width", "_law_part"] spOne := ⟨⟨_, _, ok_one F_law_one z_isinstance z_list z_len z_all D_cells_of D_word_of D_law_sum D_law_whole, PySem.W.mg_of X G a_law_one, k_law_one, F_law_one.binds (ps := ["_law_number", "_law_width", "_law_part"]) fun _ _ _ _ _ _ us hl => match us, hl with | [_, _, _], _ => rfl⟩⟩
  exact ok_law F_law z_len z_max z_min z_range D_law_cell D_law_begun D_law_draw D_law_big D_law_one
end K01
open PySem PySem.W PyProof.Rows
set_option maxHeartbeats 0 in
theorem PySem.Challenge.cw_roomslaid_k01_words_and_cells_holds : PySem.Challenge.rw_roomslaid_k01_words_and_cells.Holds := by
  w_on; o_law; k_head; (case hw => w_witness2)
  k_fill
  refine L2.walk_of (l := PySem.Challenge.rw_roomslaid_k01_words_and_cells) (n := 63) (k := 3) (x := "_law_script") (CX := fun _ => L2.CX0) (sp := fun w => K01.spLaw _) rfl (by decide) rfl ⟨rfl, by decide, by decide⟩ (fun w h Y => PySem.W.kIn_of Y) ?F (fun _ _ a ns hl _ hS => ⟨a, ns, rfl, hS, hl, fun _ => rfl⟩) (fun _ _ _ _ _ h => h)
  case F =>
    intro w mg fa h KX G hmg
    refine' K01.all_mk KX G hmg ?a_law_cell ?l_law_cell ?c_law_cell ?k_law_cell ?a_law_begun ?l_law_begun ?c_law_begun ?k_law_begun ?a_law_draw ?l_law_draw ?c_law_draw ?k_law_draw ?a_cells_of ?l_cells_of ?c_cells_of ?k_cells_of ?a_word_of ?l_word_of ?c_word_of ?k_word_of ?a_law_whole ?l_law_whole ?c_law_whole ?k_law_whole ?a_law_sum ?l_law_sum ?c_law_sum ?k_law_sum ?a_law_big ?l_law_big ?c_law_big ?k_law_big ?a_law_one ?l_law_one ?c_law_one ?k_law_one ?a_law ?l_law ?c_law ?k_law ?n_all ?n_bool ?n_divmod ?n_int ?n_isinstance ?n_len ?n_list ?n_max ?n_min ?n_range ?n_reversed
    (case a_law_cell => k_is)
    (case l_law_cell => k_is)
    (case c_law_cell => k_is)
    (case k_law_cell => k_is)
    (case a_law_begun => k_is)
    (case l_law_begun => k_is)
    (case c_law_begun => k_is)
    (case k_law_begun => k_is)
    (case a_law_draw => k_is)
    (case l_law_draw => k_is)
    (case c_law_draw => k_is)
    (case k_law_draw => k_is)
    (case a_cells_of => k_is)
    (case l_cells_of => k_is)
    (case c_cells_of => k_is)
    (case k_cells_of => k_is)
    (case a_word_of => k_is)
    (case l_word_of => k_is)
    (case c_word_of => k_is)
    (case k_word_of => k_is)
    (case a_law_whole => k_is)
    (case l_law_whole => k_is)
    (case c_law_whole => k_is)
    (case k_law_whole => k_is)
    (case a_law_sum => k_is)
    (case l_law_sum => k_is)
    (case c_law_sum => k_is)
    (case k_law_sum => k_is)
    (case a_law_big => k_is)
    (case l_law_big => k_is)
    (case c_law_big => k_is)
    (case k_law_big => k_is)
    (case a_law_one => k_is)
    (case l_law_one => k_is)
    (case c_law_one => k_is)
    (case k_law_one => k_is)
    (case a_law => k_is)
    (case l_law => k_is)
    (case c_law => k_is)
    (case k_law => k_is)
    (case n_all => k_is)
    (case n_bool => k_is)
    (case n_divmod => k_is)
    (case n_int => k_is)
    (case n_isinstance => k_is)
    (case n_len => k_is)
    (case n_list => k_is)
    (case n_max => k_is)
    (case n_min => k_is)
    (case n_range => k_is)
    (case n_reversed => k_is)
