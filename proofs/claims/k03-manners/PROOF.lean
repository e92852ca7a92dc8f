import PyProof.Rows.All
import Wide.All
import OpenK.AllK
import Wide.FinOn
import HandS.ForMost
import HandS.More
import HandS.StrMore
import HandS.RaiseMore
import HandS.TupAny
import HandS.Conv
import HandS.Wide
import HandS.Codes
import HandS.IsInst
import KE.SortData
import PySem.Challenge.RW_broughtabout_k03_manners_beside_counting
import HandS.Replace
import HandS.ReplaceDef
import HandS.ReplaceLit
import HandS.ReplaceList
import KE.GoesMore
import PyProof.Draws
import PyProof.EnumMake
import PyProof.EnumFor
import PyProof.Rows.CountFlat
import HandS.Iter
set_option Elab.async false
set_option maxRecDepth 100000
set_option maxHeartbeats 4000000
namespace Bq
open PySem L2
/-! ## what stands, but for the jar at j -/
def But (j : Addr) (H H' : Hp) : Prop := ∀ b o, H b = some o → b ≠ j → H' b = some o
theorem But.refl {j : Addr} {H : Hp} : But j H H := fun _ _ h _ => h
theorem But.trans {j : Addr} {H H1 H2 : Hp} (a : But j H H1) (b : But j H1 H2) : But j H H2 := fun c o h n => b c o (a c o h n) n
theorem But.of {j : Addr} {H H' : Hp} (a : Same H H') : But j H H' := fun c o h _ => a c o h
theorem But.set {j : Addr} {H H1 : Hp} {o : HO} (a : But j H H1) : But j H (upd H1 j o) := fun c u h n => by rw [upd_ne n]; exact a c u h n
theorem But.new {j p : Addr} {H H1 : Hp} {o : HO} (a : But j H H1) (h : H1 p = none) : But j H (upd H1 p o) := fun c u hc n => by
  rw [upd_ne (ne_of_none (a c u hc n) h)]
  exact a c u hc n
theorem same_new {H : Hp} {p : Addr} {o : HO} (h : H p = none) : Same H (upd H p o) := fun b u q => by rw [upd_ne (ne_of_none q h)]; exact q
/-! ## the jar of draws -/
def jl (c : Addr) (p r l s n : Int) : List V := [.ref c, .int p, .int r, .int l, .int s, .int n]
structure Jr (K : PySem.W.Frag) (H : Hp) (j c : Addr) (ns : List Int) (p r l s n : Int) : Prop where
  at_ : H j = some (.lst (jl c p r l s n))
  cells : H c = some (.lst (ns.map V.int))
  p0 : 0 ≤ p
  r0 : 0 ≤ r
  s0 : 0 ≤ s
  s1 : s < 2147483563
theorem Jr.ne {K : PySem.W.Frag} {H : Hp} {j c : Addr} {ns : List Int} {p r l s n : Int} (h : Jr K H j c ns p r l s n) : c ≠ j := fun e => by
  have a := h.cells
  rw [e, h.at_] at a
  have b := Option.some.inj a
  cases ns with
  | nil => cases b
  | cons x y => cases b
/-- the jar with other numbers in it -/
theorem Jr.put {K : PySem.W.Frag} {H : Hp} {j c : Addr} {ns : List Int} {p r l s n p' r' l' s' n' : Int} (h : Jr K H j c ns p r l s n) (p0 : 0 ≤ p') (r0 : 0 ≤ r') (s0 : 0 ≤ s') (s1 : s' < 2147483563) :
    Jr K (upd H j (.lst (jl c p' r' l' s' n'))) j c ns p' r' l' s' n' := ⟨upd_same, by rw [upd_ne h.ne]; exact h.cells, p0, r0, s0, s1⟩
def Jar (K : PySem.W.Frag) (H : Hp) (j c : Addr) : Prop := ∃ ns p r l s n, Jr K H j c ns p r l s n
section
variable {K : PySem.W.Frag} {H H' : Hp} {j c p : Addr}
theorem Jar.at_j (h : Jar K H j c) : ∃ o, H j = some o := by
  obtain ⟨ns, p, r, l, s, n, q⟩ := h
  exact ⟨_, q.at_⟩
theorem Jar.at_c (h : Jar K H j c) : ∃ o, H c = some o := by
  obtain ⟨ns, p, r, l, s, n, q⟩ := h
  exact ⟨_, q.cells⟩
theorem Jar.same (h : Jar K H j c) (e : Same H H') : Jar K H' j c := by
  obtain ⟨ns, p, r, l, s, n, q⟩ := h
  exact ⟨ns, p, r, l, s, n, e _ _ q.at_, e _ _ q.cells, q.p0, q.r0, q.s0, q.s1⟩
theorem Jar.nj (h : Jar K H j c) (n : H p = none) : p ≠ j := fun e => by
  obtain ⟨o, q⟩ := h.at_j
  rw [e, q] at n
  cases n
theorem Jar.nc (h : Jar K H j c) (n : H p = none) : p ≠ c := fun e => by
  obtain ⟨o, q⟩ := h.at_c
  rw [e, q] at n
  cases n
/-- another object is written -/
theorem Jar.upd {o : HO} (h : Jar K H j c) (n1 : p ≠ j) (n2 : p ≠ c) : Jar K (L2.upd H p o) j c := by
  obtain ⟨ns, p', r, l, s, n, q⟩ := h
  exact ⟨ns, p', r, l, s, n, by rw [upd_ne n1.symm]; exact q.at_, by rw [upd_ne n2.symm]; exact q.cells, q.p0, q.r0, q.s0, q.s1⟩
theorem Jar.new {o : HO} (h : Jar K H j c) (n : H p = none) : Jar K (L2.upd H p o) j c := h.upd (h.nj n) (h.nc n)
end
/-- a def that stands: its address, its promise -/
structure Dn (P : Program) (w : World) (K : PySem.W.Frag) (mg : Str → Option Value) (base : Heap) (k : Nat) (x : Str) (ps : List Str) (sp : Sp) where
  f : Addr
  fd : FuncData
  ok : FnOk P w K mg base CX0 k f fd ps sp
  mg : mg x = some (.ref f)
  kp : PySem.W.keepIn K (.ref f) = true
  bd : Binds K fd ps []
/-- the built-ins that no name of the module hides -/
structure Bt (mg : Str → Option Value) : Prop where
  b_len : mg "len" = none
  b_int : mg "int" = none
  b_str : mg "str" = none
  b_list : mg "list" = none
  b_tuple : mg "tuple" = none
  b_dict : mg "dict" = none
  b_range : mg "range" = none
  b_sorted : mg "sorted" = none
  b_all : mg "all" = none
  b_any : mg "any" = none
  b_enumerate : mg "enumerate" = none
  b_isinstance : mg "isinstance" = none
  b_bool : mg "bool" = none
variable {mg : Str → Option Value}
theorem Bt.o_len (_ : Bt mg) : bootBuiltins "len" = some (.builtin "len") := by decide +kernel
theorem Bt.o_int (_ : Bt mg) : bootBuiltins "int" = some (.type "int") := by decide +kernel
theorem Bt.o_str (_ : Bt mg) : bootBuiltins "str" = some (.type "str") := by decide +kernel
theorem Bt.o_list (_ : Bt mg) : bootBuiltins "list" = some (.type "list") := by decide +kernel
theorem Bt.o_tuple (_ : Bt mg) : bootBuiltins "tuple" = some (.type "tuple") := by decide +kernel
theorem Bt.o_dict (_ : Bt mg) : bootBuiltins "dict" = some (.type "dict") := by decide +kernel
theorem Bt.o_sorted (_ : Bt mg) : bootBuiltins "sorted" = some (.builtin "sorted") := by decide +kernel
theorem Bt.o_all (_ : Bt mg) : bootBuiltins "all" = some (.builtin "all") := by decide +kernel
theorem Bt.o_any (_ : Bt mg) : bootBuiltins "any" = some (.builtin "any") := by decide +kernel
theorem Bt.o_isinstance (_ : Bt mg) : bootBuiltins "isinstance" = some (.builtin "isinstance") := by decide +kernel
/-! ## sequences at an address, list or tuple -/
def Sq (K : PySem.W.Frag) (H : Hp) (a : Addr) (xs : List V) : Prop := SqL K H a xs ∨ SqT K H a xs
end Bq
set_option Elab.async false
set_option linter.all false
set_option maxRecDepth 100000
set_option maxHeartbeats 4000000
namespace Bq
open PySem L2
/-! ## what may be a list or a tuple, walked -/
theorem PI.or {X : Cx} {tg l : Expr} {w1 w2 : TI} (a : PI X tg l w1) (b : PI X tg l w2) : PI X tg l (fun σ H R => w1 σ H R ∨ w2 σ H R) := ⟨fun pins s σ H R I h => h.elim (a.run pins s σ H R I) (b.run pins s σ H R I)⟩
def SqX (K : PySem.W.Frag) (a : Addr) (xs : List V) (J : It) (H : Hp) : Prop := (J = Itl K a ∧ SqL K H a xs) ∨ (J = Itt K a ∧ SqT K H a xs)
theorem SqX.same {K : PySem.W.Frag} {a : Addr} {xs : List V} {J : It} {H H' : Hp} (h : SqX K a xs J H) (e : Same H H') : SqX K a xs J H' := by
  rcases h with ⟨q, h⟩ | ⟨q, (h | ⟨o, h⟩) | h⟩
  · exact .inl ⟨q, e.seq h⟩
  · exact .inr ⟨q, .inl (.inl (e _ _ h))⟩
  · exact .inr ⟨q, .inl (.inr ⟨o, e _ _ h⟩)⟩
  · exact .inr ⟨q, .inr h⟩
theorem or_seq {K : PySem.W.Frag} {σ : St} {H : Hp} {i : Nat} {a : Addr} {xs : List V} {R : It → Hp → Prop} (hv : σ[i]? = some (some (.ref a))) (hS : Sq K H a xs) (h : ∀ J, SqX K a xs J H → R J H) :
    iList K (tVar i) σ H R ∨ iTup K (tVar i) σ H R := by
  rcases hS with q | q
  · exact .inl ⟨_, hv, a, rfl, ⟨_, q⟩, h _ (.inl ⟨rfl, q⟩)⟩
  · exact .inr ⟨_, hv, a, rfl, ⟨_, q⟩, h _ (.inr ⟨rfl, q⟩)⟩
theorem SqX.get {K : PySem.W.Frag} {a : Addr} {xs : List V} {J : It} {H H' : Hp} {x : V} {i : Nat} (h : SqX K a xs J H) (y : J.yld i H x H') : H' = H ∧ xs[i]? = some x := by
  rcases h with ⟨rfl, h⟩ | ⟨rfl, h⟩
  · exact ⟨y.1, y.2 _ h⟩
  · exact ⟨y.1, y.2 _ h⟩
theorem SqX.goes {K : PySem.W.Frag} {a : Addr} {xs : List V} {J : It} {H : Hp} {i : Nat} (h : SqX K a xs J H) (hi : i < xs.length) : J.go i H := by
  rcases h with ⟨rfl, h⟩ | ⟨rfl, h⟩
  · exact ⟨xs, xs[i], h, by simp [hi]⟩
  · exact ⟨xs, xs[i], h, by simp [hi]⟩
theorem SqX.ends {K : PySem.W.Frag} {a : Addr} {xs : List V} {J : It} {H : Hp} {i : Nat} (h : SqX K a xs J H) (hi : xs.length ≤ i) : J.stop i H := by
  rcases h with ⟨rfl, h⟩ | ⟨rfl, h⟩
  · exact ⟨xs, h, hi⟩
  · exact ⟨xs, h, hi⟩
theorem for_sq {K : PySem.W.Frag} {a : Addr} {xs : List V} {J : It} {g : TG} {tb : TS} {D : Ends} {σ : St} {H : Hp} (Pv : Nat → St → Hp → Prop) (h0 : Pv 0 σ H) (hl : ∀ i σ H, i ≤ xs.length → Pv i σ H → SqX K a xs J H)
    (hs : ∀ i x σ H, xs[i]? = some x → Pv i σ H → g x σ H fun σ2 H2 => tb { D with nx := Pv (i + 1), ct := Pv (i + 1), bk := D.nx } σ2 H2) (hd : ∀ σ H, Pv xs.length σ H → D.nx σ H) :
    ∃ W : Nat → Nat → St → Hp → Prop, (∃ m, W 0 m σ H) ∧ ∀ i m σ H, W i m σ H →
      (J.stop i H ∧ D.nx σ H) ∨ (J.go i H ∧ ∃ N : St → Hp → Prop, (∀ σ' H', N σ' H' → ∃ m', m' < m ∧ W (i + 1) m' σ' H') ∧ ∀ x H', J.yld i H x H' → g x σ H' fun σ2 H2 => tb { D with nx := N, ct := N, bk := D.nx } σ2 H2) := by
  refine ⟨fun i m σ H => m = xs.length - i ∧ i ≤ xs.length ∧ Pv i σ H, ⟨xs.length, by simp, Nat.zero_le _, h0⟩, ?_⟩
  rintro i m σ H ⟨rfl, hi, p⟩
  have q := hl i σ H hi p
  by_cases hlt : i < xs.length
  · refine .inr ⟨q.goes hlt, Pv (i + 1), fun σ' H' p' => ⟨xs.length - (i + 1), by omega, rfl, hlt, p'⟩, fun x H' y => ?_⟩
    obtain ⟨rfl, e⟩ := q.get y
    exact hs i x σ _ e p
  · have e : i = xs.length := by omega
    subst e
    exact .inl ⟨q.ends (Nat.le_refl _), hd σ H p⟩
theorem lc_sq {K : PySem.W.Frag} {a : Addr} {xs : List V} {J : It} {g : TG} {tt : TT} {te : TE} {vs : List Nat} {σ : St} {H1 : Hp} {D : Addr} {Qd : Hp → Prop} (Pv : Nat → Hp → Prop) (h0 : Pv 0 (upd H1 D (.lst []))) (hl : ∀ i H, i ≤ xs.length → Pv i H → SqX K a xs J H)
    (hs : ∀ i x H, xs[i]? = some x → Pv i H → g x (wipe σ vs) H fun σ2 H2 => wipe σ2 vs = wipe σ vs ∧ tt σ2 H2 fun b H3 =>
      if b = true then te σ2 H3 fun y H4 => ∃ acc, H4 D = some (.lst acc) ∧ acc.length < sizeLine ∧ Pv (i + 1) (upd H4 D (.lst (acc ++ [y]))) else Pv (i + 1) H3) (hd : ∀ H, Pv xs.length H → Qd H) :
    ∃ W : Nat → Nat → Hp → Prop, (∃ m, W 0 m (upd H1 D (.lst []))) ∧ ∀ i m H, W i m H →
      (J.stop i H ∧ Qd H) ∨ (J.go i H ∧ ∃ Nx : Hp → Prop, (∀ H', Nx H' → ∃ m', m' < m ∧ W (i + 1) m' H') ∧ ∀ x H', J.yld i H x H' → g x (wipe σ vs) H' fun σ2 H2 => wipe σ2 vs = wipe σ vs ∧ tt σ2 H2 fun b H3 =>
        if b = true then te σ2 H3 fun y H4 => ∃ acc, H4 D = some (.lst acc) ∧ acc.length < sizeLine ∧ Nx (upd H4 D (.lst (acc ++ [y]))) else Nx H3) := by
  refine ⟨fun i m H => m = xs.length - i ∧ i ≤ xs.length ∧ Pv i H, ⟨xs.length, by simp, Nat.zero_le _, h0⟩, ?_⟩
  rintro i m H ⟨rfl, hi, p⟩
  have q := hl i H hi p
  by_cases hlt : i < xs.length
  · refine .inr ⟨q.goes hlt, Pv (i + 1), fun H' p' => ⟨xs.length - (i + 1), by omega, rfl, hlt, p'⟩, fun x H' y => ?_⟩
    obtain ⟨rfl, e⟩ := q.get y
    exact hs i x _ e p
  · have e : i = xs.length := by omega
    subst e
    exact .inl ⟨q.ends (Nat.le_refl _), hd H p⟩
/-! ## texts -/
theorem in_strs (w : Str) (ss : List Str) : inV (.str w) (ss.map V.str) = decide (w ∈ ss) := by
  unfold inV
  induction ss with
  | nil => rfl
  | cons a r ih =>
    rw [List.map_cons, List.any_cons, ih]
    show ((a == w) || decide (w ∈ r)) = decide (w ∈ a :: r)
    by_cases h : a = w
    · subst h; simp
    · have h' : ¬ w = a := fun q => h q.symm
      by_cases h2 : w ∈ r <;> simp [h, h', h2]
theorem flat_strs (ss : List Str) : (ss.map V.str).all flatV = true := by
  rw [List.all_eq_true]
  intro x hx
  obtain ⟨s, _, rfl⟩ := List.mem_map.mp hx
  rfl
def lower (c : Nat) : Bool := 97 ≤ c && c ≤ 122
def alnum (c : Nat) : Bool := (97 ≤ c && c ≤ 122) || (65 ≤ c && c ≤ 90) || (48 ≤ c && c ≤ 57)
/-- a drawn word: a small letter, then letters and figures -/
structure Wd (s : Str) : Prop where
  ex : ∃ c r, s.cps.toList = c :: r ∧ lower c = true ∧ r.all alnum = true
theorem app_cps (x y : Str) : (x ++ y).cps.toList = x.cps.toList ++ y.cps.toList := by
  show (x.cps ++ y.cps).toList = _
  simp
theorem app_len (x y : Str) : (x ++ y).length = x.length + y.length := by
  show (x.cps ++ y.cps).size = x.cps.size + y.cps.size
  simp
theorem Wd.add {s : Str} {c : Nat} (h : Wd s) (hc : alnum c = true) : Wd (s ++ ⟨#[c]⟩) := by
  obtain ⟨d, r, e, l, a⟩ := h.ex
  refine ⟨d, r ++ [c], by rw [app_cps, e]; rfl, l, ?_⟩
  rw [List.all_append, a]
  simp [hc]
theorem str_ext {x y : Str} (h : x.cps.toList = y.cps.toList) : x = y := by
  cases x; cases y
  simp at h
  rw [h]
theorem at_mem {α : Type} {xs : List α} {d : Int} {v : α} (h : atI xs d = some v) : v ∈ xs := by
  unfold atI at h
  cases e : ixN xs.length d with
  | none => rw [e] at h; cases h
  | some q => rw [e] at h; exact List.mem_of_getElem? h
theorem at_ints {α : Type} {xs : List α} {d : Int} (h0 : 0 ≤ d) (h1 : d < (xs.length : Int)) : ∃ v, atI xs d = some v := by
  obtain ⟨q, rfl⟩ : ∃ q : Nat, d = (q : Int) := ⟨d.toNat, by omega⟩
  have hq : q < xs.length := by omega
  exact ⟨xs[q], atI_nat (List.getElem?_eq_getElem hq)⟩
/-! ## the boxes: n + 1 different things do not all lie among n -/
theorem boxes {α : Type} [DecidableEq α] : ∀ (n : Nat) (xs : List α) (f : Nat → α), (∀ i j, i ≤ n → j ≤ n → f i = f j → i = j) → (∀ i, i ≤ n → f i ∈ xs) → n < xs.length
  | 0, xs, f, _, h => List.length_pos_of_mem (h 0 (Nat.le_refl 0))
  | n + 1, xs, f, inj, h => by
    have hm := h (n + 1) (Nat.le_refl _)
    have q := boxes n (xs.erase (f (n + 1))) f (fun i j hi hj e => inj i j (by omega) (by omega) e) (fun i hi => by
      refine (List.mem_erase_of_ne fun e => ?_).mpr (h i (by omega))
      have := inj i (n + 1) (by omega) (Nat.le_refl _) e
      omega)
    rw [List.length_erase_of_mem hm] at q
    omega
end Bq
set_option Elab.async false
set_option linter.all false
set_option maxRecDepth 100000
set_option maxHeartbeats 4000000
namespace Bq
open PySem PySem.Spec PyProof.Rows L2
/-! ## the layer's rules with the written part named (within a comprehension it must not be read off the context) -/
section
variable {X : Cx} {K : PySem.W.Frag}
theorem ixL (h : X.K = K := by rfl) : IxR X (rIxL K) := h ▸ ix_list
theorem ixT (h : X.K = K := by rfl) : IxR X (rIxT K) := h ▸ ix_tup
theorem ixQ (h : X.K = K := by rfl) : IxR X (rIx K) := h ▸ ix_seq
def rLenQ (K : PySem.W.Frag) : List V → Hp → VK → Prop := fun xs H Q => ∃ p ys, xs = [.ref p] ∧ (SqL K H p ys ∨ SqT K H p ys) ∧ Q (.int ys.length) H
theorem cLen (h : X.K = K := by rfl) : CallR X (.builtin "len") (rLenQ K) := h ▸ call_len_seq
def rListQ (K : PySem.W.Frag) : List V → Hp → VK → Prop := fun xs H Q => ∃ p ys, xs = [.ref p] ∧ (SqL K H p ys ∨ SqT K H p ys) ∧ ∀ l, H l = none → Q (.ref l) (upd H l (.lst ys))
theorem cList (h : X.K = K := by rfl) : CallR X (.type "list") (rListQ K) := h ▸ call_list_of
def rTupQ (K : PySem.W.Frag) : List V → Hp → VK → Prop := fun xs H Q => ∃ p ys, xs = [.ref p] ∧ ((SqL K H p ys ∧ ∀ l, H l = none → Q (.ref l) (upd H l (.tup ys))) ∨ (SqT K H p ys ∧ Q (.ref p) H))
theorem cTuple (h : X.K = K := by rfl) : CallR X (.type "tuple") (rTupQ K) := h ▸ call_tuple_of
theorem cIsi (h : X.K = K := by rfl) : CallR X (.builtin "isinstance") (rIsi K) := h ▸ call_isi
theorem cAll (hc : X.calm = true) (h : X.K = K := by rfl) : CallR X (.builtin "all") (rAll K) := h ▸ cr_all hc
theorem cAny (hc : X.calm = true) (h : X.K = K := by rfl) : CallR X (.builtin "any") (rAny K) := h ▸ cr_any hc
theorem slL (h : X.K = K := by rfl) : SlR X (rSlL K) := h ▸ sl_list
theorem slT (h : X.K = K := by rfl) : SlR X (rSlT K) := h ▸ sl_tup
theorem oIn (h : X.K = K := by rfl) : OpR X (compareOp .In) (rIn K false) := h ▸ op_in_seq
theorem oNotIn (h : X.K = K := by rfl) : OpR X (compareOp .NotIn) (rIn K true) := h ▸ op_notIn_seq
theorem oEqD (hu : X.A.units + 64 < cLine) (h : X.K = K := by rfl) : OpR X (compareOp .Eq) (rEqD K) := h ▸ op_eqD hu
theorem oNeD (hu : X.A.units + 64 < cLine) (h : X.K = K := by rfl) : OpR X (compareOp .NotEq) (rNeD K) := h ▸ op_neD hu
theorem bm0 {o : Expr} {to : TE} {name : Str} {T id : String} {r : V → List V → Hp → VK → Prop} {apos cpos : Pos} (pa : PySem.PlainAttrs T) (slot : Slot T name id) (hty : typeOf (.builtin id) = pure (.type "method_descriptor")) (hm : MtR X id r) (ho : PE X o to)
    (h : X.K = K := by rfl) (hb : attributeBase o name X.env (eval o X.env) = eval o X.env := by rfl) (hl : (apos.endLine == cpos.line) = true := by rfl) : PE X (.Call (.Attribute o name apos) [] [] cpos) (tBM0 K T r to) := by
  subst h
  exact pe_bm0 pa slot hty hm ho hb hl
theorem bm {o e : Expr} {es : List Expr} {to : TE} {t : TA} {name : Str} {T id : String} {r : V → List V → Hp → VK → Prop} {apos cpos : Pos} (pa : PySem.PlainAttrs T) (slot : Slot T name id) (hty : typeOf (.builtin id) = pure (.type "method_descriptor")) (hm : MtR X id r) (ho : PE X o to) (ha : PA X (e :: es) t)
    (h : X.K = K := by rfl) (hb : attributeBase o name X.env (eval o X.env) = eval o X.env := by rfl) (hp : ((((backTo cpos (starEach (e :: es) X.env)).all fun x => !x.fst) && (backToKw cpos (keywordEach [] X.env)).all fun x => x.fst.isSome) && decide (((e :: es).length + ([] : List Keyword).length + if ([] : List Keyword).isEmpty = true then 0 else 1) < 30)) = true := by rfl)
    (hl : (apos.endLine == cpos.line) = true := by rfl) (hs : starEach (e :: es) X.env = (false, eval e X.env) :: starEach es X.env := by rfl) (hn : ((backTo cpos (starEach es X.env)).any fun x => x.fst) = false := by rfl) : PE X (.Call (.Attribute o name apos) (e :: es) [] cpos) (tBM K T r to t) := by
  subst h
  exact pe_bm pa slot hty hm ho ha hb hp hl hs hn
def tTruth (K : PySem.W.Frag) (ta : TE) : TT := fun σ H Q => ta σ H fun x H' => ∃ k, TruV K x H' k ∧ Q k H'
theorem trth {a : Expr} {ta : TE} (ha : PE X a ta) (he : ∀ whole : Sem Value, PySem.isTrue a X.env whole = (do let v ← whole; standAt a.pos; holding [v] (truthy v))) (h : X.K = K := by rfl) : PT X a (tTruth K ta) := by
  subst h
  exact pt_truth ha he
theorem fld {e : Expr} {ta : TE} {f : Str} {pos : Pos} (he : PE X e ta) (h : X.K = K := by rfl) (hb : attributeBase e f X.env (eval e X.env) = eval e X.env := by rfl) : PE X (.Attribute e f pos) (tFld K ta f) := by
  subst h
  exact pe_fld he hb
theorem piL {tg l : Expr} {tl : TE} (hl : PE X l tl) (h : X.K = K := by rfl) : PI X tg l (iList K tl) := h ▸ pi_list hl
theorem piT {tg l : Expr} {tl : TE} (hl : PE X l tl) (h : X.K = K := by rfl) : PI X tg l (iTup K tl) := h ▸ pi_tup hl
end
/-! ## kinds of what stands -/
theorem ty_list {K : PySem.W.Frag} {H : Hp} {a : Addr} {xs : List V} (h : SqL K H a xs) : TyX K H (.ref a) (.type "list") := by
  rcases h with (h | ⟨o, h⟩) | ⟨o, its, n, h, c, _⟩
  · exact .base (.lst h)
  · exact .base (.frz h)
  · exact .kList h c
theorem ty_tuple {K : PySem.W.Frag} {H : Hp} {a : Addr} {xs : List V} (h : SqT K H a xs) : TyX K H (.ref a) (.type "tuple") := by
  rcases h with (h | ⟨o, h⟩) | ⟨o, its, n, h, c, _⟩
  · exact .base (.tup h)
  · exact .fTuple h
  · exact .kTuple h c
theorem Bt.o_bool {mg : Str → Option Value} (_ : Bt mg) : bootBuiltins "bool" = some (.type "bool") := by decide +kernel
theorem isV {K : PySem.W.Frag} {i : Nat} {σ : L2.St} {H : Hp} {x : V} {t n : String} {b : Bool} {Q : VK} (hv : σ[i]? = some (some x)) (ht : TyX K H x (.type t)) (hk : kitB t n = some b) (q : Q (.bl b) H) :
    tCB (rIsi K) (tCons (tVar i) (tCons (tC (.ty n)) tNil)) σ H Q := ⟨x, hv, x, .ty n, .type t, .type n, b, rfl, .ty n, ht, kit_ty hk, q⟩
theorem isB {K : PySem.W.Frag} {i : Nat} {σ : L2.St} {H : Hp} {x : V} {t n : String} {b : Bool} {Q : Bool → Hp → Prop} (hv : σ[i]? = some (some x)) (ht : TyX K H x (.type t)) (hk : kitB t n = some b) (q : Q b H) :
    tB (tCB (rIsi K) (tCons (tVar i) (tCons (tC (.ty n)) tNil))) σ H Q := isV hv ht hk ⟨b, rfl, q⟩
end Bq
set_option Elab.async false
set_option linter.all false
set_option maxRecDepth 100000
set_option maxHeartbeats 4000000
namespace Bq
open PySem PySem.Spec PyProof.Rows L2
/-! ## sorted of data -/
theorem DpAll.len {K : PySem.W.Frag} {H : Hp} : ∀ {vs : List V} {ds : List PyData}, DpAll K H vs ds → vs.length = ds.length
  | _, _, .nil => rfl
  | _, _, .cons _ t => by rw [List.length_cons, List.length_cons, DpAll.len t]
def sortD (xs : List V) (ds : List PyData) : List V := ((xs.zip ds).mergeSort (PySem.W.dataLe false Prod.snd)).map Prod.fst
def rSortD (K : PySem.W.Frag) : List V → Hp → VK → Prop := fun vs H Q => ∃ (a : Addr) (xs : List V) (ds : List PyData), vs = [.ref a] ∧ SqL K H a xs ∧ DpAll K H xs ds ∧ PySem.W.AllAlike ds ∧ PySem.W.Sortable ds ∧ (∀ d, d ∈ ds → d.depth ≤ 60) ∧
  ∀ p, H p = none → Q (.ref p) (upd H p (.lst (sortD xs ds)))
section
variable {X : Cx} {pins : List (Addr × Obj)} {σ : L2.St} {H : Hp} {s : Shared}
theorem each1 : ∀ {xs : List V} {its : List Value} {ds : List PyData}, Vals xs its → xs.length = ds.length → PySem.W.EachIs (fun (v : Value) (b : V × PyData) => RelV b.1 v) its (xs.zip ds)
  | _, _, [], .nil, _ => .nil
  | _, _, d :: ds, .cons r t, h => .cons r (each1 t (by simpa using h))
theorem each2 (I : Inv X pins σ H s) : ∀ {xs : List V} {its : List Value} {ds : List PyData}, Vals xs its → DpAll X.K H xs ds → PySem.W.EachIs (fun (v : Value) (b : V × PyData) => ∃ as, Reads s.heap v b.2 as) its (xs.zip ds)
  | _, _, _, .nil, .nil => .nil
  | _, _, _, .cons r t, .cons p q => .cons (Dp.reads I _ _ _ p r) (each2 I t q)
theorem vals_out : ∀ {out : List Value} {bs : List (V × PyData)}, PySem.W.EachIs (fun (v : Value) (b : V × PyData) => RelV b.1 v) out bs → Vals (bs.map Prod.fst) out
  | _, _, .nil => .nil
  | _, _, .cons r t => .cons r (vals_out t)
theorem zip_snd : ∀ {xs : List V} {ds : List PyData}, xs.length = ds.length → (xs.zip ds).map Prod.snd = ds
  | [], [], _ => rfl
  | _ :: _, _ :: _, h => by
    rw [List.zip_cons_cons, List.map_cons, zip_snd (by simpa using h)]
theorem cr_sortD (hu : X.A.units + 64 < cLine) : CallR X (.builtin "sorted") (rSortD X.K) := by
  intro pins s σ H vs us Q I r h
  obtain ⟨a, xs, ds, rfl, hs, hd, al, so, dp, q⟩ := h
  obtain ⟨its, rv, hl, hz⟩ := I.list hs
  rw [Vals.ref1 r]
  have lx := DpAll.len hd
  have lz : (xs.zip ds).length = xs.length := by rw [List.length_zip]; omega
  have ez := zip_snd lx
  refine PySem.W.sorted_data (enc := Prod.snd) hl.isList (each1 rv lx) (each2 I rv hd) (by rw [ez]; exact al) (by rw [ez]; exact so) (by rw [lz]; exact hz) (fun b hb => ?_) fun out ho eo => ?_
  · have hm : b.2 ∈ ds := by
      rw [← ez]
      exact List.mem_map.mpr ⟨b, hb, rfl⟩
    have := dp _ hm
    omega
  · obtain ⟨ep, he'⟩ := PyProof.Rows.sortedAll_at s.heap its out.toArray
    have rv2 := vals_out eo
    have hlen : (sortD xs ds).length ≤ sizeLine := by
      unfold sortD
      rw [List.length_map, List.length_mergeSort, lz]
      exact hz
    exact ⟨.ref _, upd H (s.heap.objs.size + 1) (.lst (sortD xs ds)), I.laid (t' := s.toks) (fun _ _ => PyProof.Rows.sortedAll_old) (Nat.le_succ _) ⟨hlen, out, ep, rv2, he'⟩, rfl, q _ (I.hok.fresh (Nat.le_succ _))⟩
theorem cSorted {K : PySem.W.Frag} (hu : X.A.units + 64 < cLine) (h : X.K = K := by rfl) : CallR X (.builtin "sorted") (rSortD K) := h ▸ cr_sortD hu
end
theorem oCatA {X : Cx} {K : PySem.W.Frag} (h : X.K = K := by rfl) : OpR X (binaryOp .Add) (rCatA K) := h ▸ op_catA
theorem sortD_perm {xs : List V} {ds : List PyData} (h : xs.length = ds.length) : (sortD xs ds).Perm xs := by
  unfold sortD
  have q := (List.mergeSort_perm (xs.zip ds) (PySem.W.dataLe false Prod.snd)).map Prod.fst
  have e : (xs.zip ds).map Prod.fst = xs := List.map_fst_zip (by omega)
  rw [e] at q
  exact q
end Bq
set_option Elab.async false
set_option linter.all false
set_option maxRecDepth 100000
set_option maxHeartbeats 4000000
namespace Bq
open PySem L2
def top (i : Nat) : Stmt := PySem.Challenge.pw_broughtabout_k03_manners_beside_counting.main.body.getD i (.Pass ⟨0, 0, 0, 0⟩)
variable {P : Program} {w : World} {K : PySem.W.Frag} {mg : Str → Option Value} {base : Heap}
def spDraw (K : PySem.W.Frag) : Sp := fun vs H Q _ => ∃ (j c : Addr) (m : Int), vs = [.ref j, .int m] ∧ Jar K H j c ∧ 0 < m ∧ m < 1073741824 ∧ ∀ d H', 0 ≤ d → d < m → Jar K H' j c → But j H H' → Q (.int d) H'
abbrev sL_draw : Stmt := top 22
abbrev nL_draw : List Str := ["jar", "many", "cell", "digit"]
theorem scL_draw : FnScope nL_draw ["jar", "many"] (defScope sL_draw) := ⟨rfl, rfl, rfl, by decide +kernel, rfl, by decide +kernel, by decide +kernel⟩
theorem fmod_lo (a : Int) {b : Int} (h : 0 < b) : 0 ≤ a.fmod b := by
  rw [Int.fmod_eq_emod_of_nonneg _ (by omega)]
  exact Int.emod_nonneg _ (by omega)
theorem fmod_hi (a : Int) {b : Int} (h : 0 < b) : a.fmod b < b := by
  rw [Int.fmod_eq_emod_of_nonneg _ (by omega)]
  exact Int.emod_lt_of_pos _ h
theorem fdiv_lo {a b : Int} (ha : 0 ≤ a) (h : 0 < b) : 0 ≤ a.fdiv b := by
  rw [Int.fdiv_eq_ediv_of_nonneg _ (by omega)]
  exact Int.ediv_nonneg ha (by omega)
theorem at_cell {ns : List Int} {p : Int} (h0 : 0 ≤ p) (h : p < (ns.length : Int)) : ∃ z : Int, atI (ns.map V.int) p = some (.int z) := by
  obtain ⟨q, rfl⟩ : ∃ q : Nat, p = (q : Int) := ⟨p.toNat, by omega⟩
  have hq : q < ns.length := by omega
  exact ⟨ns[q], atI_nat (by rw [List.getElem?_map, List.getElem?_eq_getElem hq]; rfl)⟩
theorem ok_draw {f : Addr} {fd : FuncData} (F : Fun K "_law_draw" "_law_draw" sL_draw f fd) (T : Bt mg) : FnOk P w K mg base CX0 1 f fd ["jar", "many"] (spDraw K) := by
  refine F.ok scL_draw (fun vs H Q E h => ?_) (fun cdv A outer s H vs Q E hr h => ?_)
  · obtain ⟨j, c, m, rfl, _⟩ := h
    rfl
  · obtain ⟨j, c, m, rfl, ⟨ns, p, r, l, s, n, J⟩, m0, m1, k⟩ := h
    refine ⟨_, (pss_cons (ps_asg (pe_op op_add (pe_ix ix_list (pv 0) pe_int (fun _ _ => rfl)) pe_int) (pg_sub (pv 0) pe_int set_list))
      (C8.pss_cut (ps_if (PW.pt (pw_and (pt_cmpR op_eq (pe_ix ix_list (pv 0) pe_int (fun _ _ => rfl)) pe_int (nomark _)) (pw_and1 (pt_cmpR op_lt (pe_ix ix_list (pv 0) pe_int (fun _ _ => rfl)) (pe_callB call_len_seq rfl T.b_len T.o_len (pa_cons (pe_ix ix_list (pv 0) pe_int (fun _ _ => rfl)) pa_nil)) (nomark _))))) (pss_cons (ps_set (i := 2) scL_draw.nd rfl (Or.inl rfl) (pe_callTy call_int1 rfl T.b_int T.o_int (pa_cons (pe_ix ix_list (pe_ix ix_list (pv 0) pe_int (fun _ _ => rfl)) (pe_ix ix_list (pv 0) pe_int (fun _ _ => rfl)) (fun _ _ => rfl)) pa_nil)))
      (pss_cons (ps_asg (pe_op op_add (pe_ix ix_list (pv 0) pe_int (fun _ _ => rfl)) pe_int) (pg_sub (pv 0) pe_int set_list))
      (pss_one (ps_if (pt_cmpR op_ge (pv 2) (pe_op op_pow pe_int pe_int) (nomark _)) (pss_cons (ps_asg (pv 2) (pg_sub (pv 0) pe_int set_list))
      (pss_one (ps_asg pe_int (pg_sub (pv 0) pe_int set_list)))) (pss_one (ps_asg (pe_op op_modN (pe_callTy call_int1 rfl T.b_int T.o_int (pa_cons (pe_op op_add (pe_op op_add (pe_op op_mul (pe_ix ix_list (pv 0) pe_int (fun _ _ => rfl)) pe_int) (pe_op op_mul (pe_op op_modN (pe_callTy call_int1 rfl T.b_int T.o_int (pa_cons (pv 2) pa_nil)) pe_int) pe_int)) pe_int) pa_nil)) pe_int) (pg_sub (pv 0) pe_int set_list))))))) pss_nil)
      (pss_cons (ps_if (pt_cmpR op_gt (pe_ix ix_list (pv 0) pe_int (fun _ _ => rfl)) pe_int (nomark _)) (pss_cons (ps_set (i := 3) scL_draw.nd rfl (Or.inl rfl) (pe_op op_modN (pe_callTy call_int1 rfl T.b_int T.o_int (pa_cons (pe_ix ix_list (pv 0) pe_int (fun _ _ => rfl)) pa_nil)) (pv 1)))
      (pss_cons (ps_asg (pe_op op_fdivN (pe_ix ix_list (pv 0) pe_int (fun _ _ => rfl)) (pv 1)) (pg_sub (pv 0) pe_int set_list))
      (pss_cons (ps_asg (pe_ifExp (pt_cmpR op_gt (pe_ix ix_list (pv 0) pe_int (fun _ _ => rfl)) pe_int (nomark _)) (pe_op op_sub (pe_ix ix_list (pv 0) pe_int (fun _ _ => rfl)) pe_int) pe_int) (pg_sub (pv 0) pe_int set_list))
      (pss_one (ps_ret (pv 3)))))) pss_nil)
      (pss_cons (ps_asg (pe_op op_modN (pe_callTy call_int1 rfl T.b_int T.o_int (pa_cons (pe_op op_add (pe_op op_add (pe_op op_add (pe_op op_mul (pe_op op_mul (pe_ix ix_list (pv 0) pe_int (fun _ _ => rfl)) (pe_ix ix_list (pv 0) pe_int (fun _ _ => rfl))) pe_int) (pe_op op_mul (pe_ix ix_list (pv 0) pe_int (fun _ _ => rfl)) pe_int)) (pe_op op_mul (pe_ix ix_list (pv 0) pe_int (fun _ _ => rfl)) pe_int)) pe_int) pa_nil)) pe_int) (pg_sub (pv 0) pe_int set_list))
      (pss_one (ps_ret (pe_op op_modN (pe_callTy call_int1 rfl T.b_int T.o_int (pa_cons (pe_op op_add (pe_op op_fdivN (pe_ix ix_list (pv 0) pe_int (fun _ _ => rfl)) pe_int) (pe_op op_mul (pe_op op_modN (pe_callTy call_int1 rfl T.b_int T.o_int (pa_cons (pe_ix ix_list (pv 0) pe_int (fun _ _ => rfl)) pa_nil)) pe_int) pe_int)) pa_nil)) (pv 1)))))))), ?_⟩
    -- jar[5] = jar[5] + 1
    refine ⟨_, rfl, j, _, _, _, rfl, rfl, SqL.of J.at_, rfl, _, _, rfl, rfl, _, rfl, j, _, _, _, rfl, rfl, J.at_, rfl, ?_⟩
    have J1 := J.put (l' := l) (n' := n + 1) J.p0 J.r0 J.s0 J.s1
    have B1 : But j H (upd H j (.lst (jl c p r l s (n + 1)))) := But.refl.set
    -- the word between: the jar is a jar
    refine ⟨fun σ H2 => ∃ (v2 v3 : Option V) (p r l s n : Int), σ = [some (.ref j), some (.int m), v2, v3] ∧ Jr K H2 j c ns p r l s n ∧ But j H H2, ?_, ?_⟩
    · -- if jar[3] == 0 and jar[1] < len(jar[0])
      refine ⟨_, rfl, j, _, _, _, rfl, rfl, SqL.of J1.at_, rfl, rfl, _, rfl, ?_⟩
      refine ite2 (fun c1 => ?_) (fun c1 => ?_)
      · refine ⟨_, rfl, j, _, _, _, rfl, rfl, SqL.of J1.at_, rfl, _, rfl, j, _, _, _, rfl, rfl, SqL.of J1.at_, rfl, c, _, rfl, .inl (SqL.of J1.cells), _, _, rfl, rfl, _, rfl, ?_⟩
        refine ite2 (fun c2 => ?_) (fun c2 => ?_)
        · have c3 : p < (((ns.map V.int).length : Nat) : Int) := of_decide_eq_true c2
          rw [List.length_map] at c3
          obtain ⟨z, hz⟩ := at_cell J1.p0 c3
          refine ⟨_, rfl, j, _, _, _, rfl, rfl, SqL.of J1.at_, rfl, _, rfl, j, _, _, _, rfl, rfl, SqL.of J1.at_, rfl, c, _, _, _, rfl, rfl, SqL.of J1.cells, hz, .inl ⟨_, rfl, ?_⟩⟩
          refine ⟨_, rfl, j, _, _, _, rfl, rfl, SqL.of J1.at_, rfl, _, _, rfl, rfl, _, rfl, j, _, _, _, rfl, rfl, J1.at_, rfl, ?_⟩
          have J2 := J1.put (p' := p + 1) (l' := l) (n' := n + 1) (by have := J1.p0; omega) J1.r0 J1.s0 J1.s1
          refine ⟨_, rfl, _, _, rfl, rfl, ⟨by decide, by decide, by decide⟩, _, _, rfl, rfl, _, rfl, ?_⟩
          refine ite2 (fun c4 => ?_) (fun c4 => ?_)
          · -- a great cell
            have c5 : (10 : Int) ^ 18 ≤ z := of_decide_eq_true c4
            have z0 : 0 ≤ z := Int.le_trans (by decide) c5
            refine ⟨_, rfl, _, rfl, j, _, _, _, rfl, rfl, J2.at_, rfl, ?_⟩
            have J3 := J2.put (p' := p + 1) (r' := z) (l' := l) (n' := n + 1) J2.p0 z0 J2.s0 J2.s1
            refine ⟨_, rfl, j, _, _, _, rfl, rfl, J3.at_, rfl, ?_⟩
            have J4 := J3.put (p' := p + 1) (r' := z) (l' := 60) (n' := n + 1) J3.p0 J3.r0 J3.s0 J3.s1
            exact ⟨_, _, _, _, _, _, _, rfl, J4, ((B1.set).set).set⟩
          · refine ⟨_, rfl, j, _, _, _, rfl, rfl, SqL.of J2.at_, rfl, _, _, rfl, rfl, .inr ⟨by decide, by decide⟩, ?_⟩
            refine ⟨_, rfl, .inl ⟨_, rfl, _, _, rfl, rfl, (by show (_ : Int) ≠ _; decide), _, _, rfl, rfl, .inr ⟨by decide, by decide⟩, _, _, rfl, rfl, _, _, rfl, rfl, .inl ⟨_, rfl, _, _, rfl, rfl, (by show (_ : Int) ≠ _; decide), _, rfl, j, _, _, _, rfl, rfl, J2.at_, rfl, ?_⟩⟩⟩
            have J3 := J2.put (p' := p + 1) (r' := r) (l' := l) (n' := n + 1) (s' := (s * 50021 + z.fmod 2147483579 * 7919 + 211).fmod 2147483563) J2.p0 J2.r0 (fmod_lo _ (by decide)) (fmod_hi _ (by decide))
            exact ⟨_, _, _, _, _, _, _, rfl, J3, (B1.set).set⟩
        · exact ⟨_, _, _, _, _, _, _, rfl, J1, B1⟩
      · exact ⟨_, _, _, _, _, _, _, rfl, J1, B1⟩
    · rintro σ H2 ⟨v2, v3, p, r, l, s, n, rfl, J2, B2⟩
      -- if jar[3] > 0
      refine ⟨_, rfl, j, _, _, _, rfl, rfl, SqL.of J2.at_, rfl, _, _, rfl, rfl, _, rfl, ?_⟩
      refine ite2 (fun c1 => ?_) (fun c1 => ?_)
      · refine ⟨_, rfl, j, _, _, _, rfl, rfl, SqL.of J2.at_, rfl, .inl ⟨_, rfl, _, rfl, _, _, rfl, rfl, (by omega), ?_⟩⟩
        refine ⟨_, rfl, j, _, _, _, rfl, rfl, SqL.of J2.at_, rfl, _, rfl, _, _, rfl, rfl, ⟨by omega, by omega⟩, _, rfl, j, _, _, _, rfl, rfl, J2.at_, rfl, ?_⟩
        have J3 := J2.put (p' := p) (r' := r.fdiv m) (l' := l) (n' := n) J2.p0 (fdiv_lo J2.r0 m0) J2.s0 J2.s1
        refine ⟨_, rfl, j, _, _, _, rfl, rfl, SqL.of J3.at_, rfl, _, _, rfl, rfl, _, rfl, ?_⟩
        refine ite2 (fun c2 => ?_) (fun c2 => ?_)
        · refine ⟨_, rfl, j, _, _, _, rfl, rfl, SqL.of J3.at_, rfl, _, _, rfl, rfl, _, rfl, j, _, _, _, rfl, rfl, J3.at_, rfl, ?_⟩
          have J4 := J3.put (p' := p) (r' := r.fdiv m) (l' := l - 1) (n' := n) J3.p0 J3.r0 J3.s0 J3.s1
          exact ⟨_, rfl, k _ _ (fmod_lo _ m0) (fmod_hi _ m0) ⟨_, _, _, _, _, _, J4⟩ (B2.set).set⟩
        · refine ⟨_, rfl, j, _, _, _, rfl, rfl, J3.at_, rfl, ?_⟩
          have J4 := J3.put (p' := p) (r' := r.fdiv m) (l' := 0) (n' := n) J3.p0 J3.r0 J3.s0 J3.s1
          exact ⟨_, rfl, k _ _ (fmod_lo _ m0) (fmod_hi _ m0) ⟨_, _, _, _, _, _, J4⟩ (B2.set).set⟩
      · have s0 := J2.s0
        have s1 := J2.s1
        refine ⟨_, rfl, j, _, _, _, rfl, rfl, SqL.of J2.at_, rfl, _, rfl, j, _, _, _, rfl, rfl, SqL.of J2.at_, rfl, _, _, rfl, rfl, .inl ⟨by omega, by omega⟩, _, _, rfl, rfl, .inr ⟨by decide, by decide⟩, ?_⟩
        refine ⟨_, rfl, j, _, _, _, rfl, rfl, SqL.of J2.at_, rfl, _, _, rfl, rfl, .inr ⟨by decide, by decide⟩, _, _, rfl, rfl, ?_⟩
        refine ⟨_, rfl, j, _, _, _, rfl, rfl, SqL.of J2.at_, rfl, _, _, rfl, rfl, .inr ⟨by decide, by decide⟩, _, _, rfl, rfl, _, _, rfl, rfl, .inl ⟨_, rfl, _, _, rfl, rfl, (by show (_ : Int) ≠ _; decide), _, rfl, j, _, _, _, rfl, rfl, J2.at_, rfl, ?_⟩⟩
        have J3 := J2.put (p' := p) (r' := r) (l' := l) (n' := n) (s' := (s * s * 48271 + s * 16807 + n * 1299709 + 86743).fmod 2147483563) J2.p0 J2.r0 (fmod_lo _ (by decide)) (fmod_hi _ (by decide))
        refine ⟨_, rfl, j, _, _, _, rfl, rfl, SqL.of J3.at_, rfl, _, _, rfl, rfl, ⟨by decide, by decide⟩, _, rfl, j, _, _, _, rfl, rfl, SqL.of J3.at_, rfl, .inl ⟨_, rfl, _, _, rfl, rfl, (by show (_ : Int) ≠ _; decide), _, _, rfl, rfl, .inr ⟨by decide, by decide⟩, _, _, rfl, rfl, .inl ⟨_, rfl, _, rfl, _, _, rfl, rfl, (by omega), ?_⟩⟩⟩
        exact k _ _ (fmod_lo _ m0) (fmod_hi _ m0) ⟨_, _, _, _, _, _, J3⟩ B2.set
end Bq
set_option Elab.async false
set_option linter.all false
set_option maxRecDepth 100000
set_option maxHeartbeats 4000000
namespace Bq
open PySem L2
variable {P : Program} {w : World} {K : PySem.W.Frag} {mg : Str → Option Value} {base : Heap}
def spJar (K : PySem.W.Frag) : Sp := fun vs H Q _ => ∃ (a : Addr) (ns : List Int), vs = [.ref a] ∧ SqL K H a (ns.map V.int) ∧ ns.length ≤ 63 ∧ ∀ j c H', H j = none → H c = none → Jar K H' j c → Same H H' → Q (.ref j) H'
abbrev sL_jar : Stmt := top 21
abbrev nL_jar : List Str := ["script", "stir", "cell"]
theorem scL_jar : FnScope nL_jar ["script"] (defScope sL_jar) := ⟨rfl, rfl, rfl, by decide +kernel, rfl, by decide +kernel, by decide +kernel⟩
theorem map_get {ns : List Int} {i : Nat} {y : V} (h : (ns.map V.int)[i]? = some y) : ∃ z, y = V.int z := by
  rw [List.getElem?_map] at h
  cases e : ns[i]? with
  | none => rw [e] at h; cases h
  | some z => rw [e] at h; exact ⟨z, (Option.some.inj h).symm⟩
theorem cut_map (ns : List Int) (lo hi : Option Int) : ∃ ms : List Int, cutV (ns.map V.int) lo hi = ms.map V.int := by
  unfold cutV
  exact ⟨_, by rw [← List.map_drop, ← List.map_take]⟩
theorem ok_jar {f : Addr} {fd : FuncData} (F : Fun K "_law_jar" "_law_jar" sL_jar f fd) (T : Bt mg) : FnOk P w K mg base CX0 1 f fd ["script"] (spJar K) := by
  refine F.ok scL_jar (fun vs H Q E h => ?_) (fun cdv A outer s H vs Q E hr h => ?_)
  · obtain ⟨a, ns, rfl, _⟩ := h
    rfl
  · obtain ⟨a, ns, rfl, hS, hl, k⟩ := h
    refine ⟨_, (pss_cons (ps_set (i := 1) scL_jar.nd rfl (Or.inl rfl) pe_int)
      (pss_cons (ps_for PassesOwn.never rfl (pi_list (pe_slice sl_list (pv 0) po_none (po_some pe_int))) (pg_name (i := 2) scL_jar.nd rfl (Or.inl rfl))
      (pss_one (ps_set (i := 1) scL_jar.nd rfl (Or.inl rfl) (pe_op op_modN (pe_callTy call_int1 rfl T.b_int T.o_int (pa_cons (pe_op op_add (pe_op op_add (pe_op op_mul (pv 1) pe_int) (pe_op op_modN (pe_callTy call_int1 rfl T.b_int T.o_int (pa_cons (pv 2) pa_nil)) pe_int)) pe_int) pa_nil)) pe_int))))
      (pss_one (ps_ret (pe_lst (pa_cons (pe_callTy call_list_of rfl T.b_list T.o_list (pa_cons (pe_slice sl_list (pv 0) po_none (po_some pe_int)) pa_nil)) (pa_cons pe_int (pa_cons pe_int (pa_cons pe_int (pa_cons (pv 1) (pa_cons pe_int pa_nil))))))))))), ?_⟩
    obtain ⟨ms, em⟩ := cut_map ns none (some 63)
    refine ⟨_, rfl, _, rfl, a, _, rfl, hS, fun p hp => ?_⟩
    rw [em]
    have S1 : Same H (upd H p (.lst (ms.map V.int))) := same_new hp
    refine ⟨p, rfl, ⟨_, SqL.of upd_same⟩, for_list (K := K) (a := p) (xs := ms.map V.int) (fun i σ H2 => ∃ (v : Option V) (t : Int), σ = [some (.ref a), some (.int t), v] ∧ 0 ≤ t ∧ t < 2147483563 ∧ H2 = upd H p (.lst (ms.map V.int)))
      ⟨none, _, rfl, by decide, by decide, rfl⟩ (fun i σ H2 _ ⟨_, _, _, _, _, e⟩ => by rw [e]; exact SqL.of upd_same) ?_ ?_⟩
    · rintro i y σ H2 hi ⟨v, t, rfl, t0, t1, rfl⟩
      obtain ⟨z, rfl⟩ := map_get hi
      refine ⟨_, rfl, _, _, rfl, rfl, .inr ⟨by decide, by decide⟩, _, rfl, .inl ⟨_, rfl, _, _, rfl, rfl, (by show (_ : Int) ≠ _; decide), _, _, rfl, rfl, _, _, rfl, rfl, .inl ⟨_, rfl, _, _, rfl, rfl, (by show (_ : Int) ≠ _; decide), ?_⟩⟩⟩
      exact ⟨_, _, rfl, fmod_lo _ (by decide), fmod_hi _ (by decide), rfl⟩
    · rintro σ H2 ⟨v, t, rfl, t0, t1, rfl⟩
      refine ⟨_, rfl, _, rfl, a, _, rfl, S1.seq hS, fun q hq => ?_⟩
      rw [em]
      refine ⟨q, _, rfl, .inl (SqL.of upd_same), fun c hc => ?_⟩
      refine ⟨_, rfl, (by show 6 ≤ sizeLine; decide), fun j hj => ?_⟩
      have S2 := (S1.trans (same_new (o := .lst (ms.map V.int)) hq)).trans (same_new (o := .lst (ms.map V.int)) hc)
      refine k j c _ (S2.free hj) ((S1.trans (same_new (o := .lst (ms.map V.int)) hq)).free hc) ⟨ms, 0, 0, 0, t, 0, upd_same, by rw [upd_ne (ne_of_none upd_same hj)]; exact upd_same, by decide, by decide, t0, t1⟩ (S2.trans (same_new hj))
/-! ### _law_pick -/
def spPick (K : PySem.W.Frag) : Sp := fun vs H Q _ => ∃ (j c a : Addr) (xs : List V), vs = [.ref j, .ref a] ∧ Jar K H j c ∧ Sq K H a xs ∧ (SqT K H a xs ∨ a ≠ j) ∧ 0 < xs.length ∧ xs.length < 1073741824 ∧
  ∀ (i : Nat) v H', xs[i]? = some v → Jar K H' j c → But j H H' → Q v H'
abbrev sL_pick : Stmt := top 23
abbrev nL_pick : List Str := ["jar", "menu"]
theorem scL_pick : FnScope nL_pick ["jar", "menu"] (defScope sL_pick) := ⟨rfl, rfl, rfl, by decide +kernel, rfl, by decide +kernel, by decide +kernel⟩
theorem But.sqT {j c a : Addr} {H H' : Hp} {xs : List V} (e : But j H H') (J : Jar K H j c) (h : SqT K H a xs) : SqT K H' a xs := by
  obtain ⟨ns, p, r, l, s, n, q⟩ := J
  rcases h with (h | ⟨o, h⟩) | h
  · exact .inl (.inl (e _ _ h (ne_of h q.at_ (by intro z; cases z))))
  · exact .inl (.inr ⟨o, e _ _ h (ne_of h q.at_ (by intro z; cases z))⟩)
  · exact .inr h
theorem But.sqL {j a : Addr} {H H' : Hp} {xs : List V} (e : But j H H') (h : SqL K H a xs) (n : a ≠ j) : SqL K H' a xs := by
  rcases h with (h | ⟨o, h⟩) | h
  · exact .inl (.inl (e _ _ h n))
  · exact .inl (.inr ⟨o, e _ _ h n⟩)
  · exact .inr h
theorem But.sq {j c a : Addr} {H H' : Hp} {xs : List V} (e : But j H H') (J : Jar K H j c) (h : Sq K H a xs) (n : SqT K H a xs ∨ a ≠ j) : Sq K H' a xs := by
  rcases n with n | n
  · exact .inr (e.sqT J n)
  · rcases h with h | h
    · exact .inl (e.sqL h n)
    · exact .inr (e.sqT J h)
theorem at_int {xs : List V} {d : Int} (h0 : 0 ≤ d) (h1 : d < (xs.length : Int)) : ∃ (i : Nat) (v : V), xs[i]? = some v ∧ atI xs d = some v := by
  obtain ⟨q, rfl⟩ : ∃ q : Nat, d = (q : Int) := ⟨d.toNat, by omega⟩
  have hq : q < xs.length := by omega
  exact ⟨q, xs[q], List.getElem?_eq_getElem hq, atI_nat (List.getElem?_eq_getElem hq)⟩
theorem ok_pick {f : Addr} {fd : FuncData} (F : Fun K "_law_pick" "_law_pick" sL_pick f fd) (T : Bt mg) (D_law_draw : Dn P w K mg base 1 "_law_draw" ["jar", "many"] (spDraw K)) : FnOk P w K mg base CX0 2 f fd ["jar", "menu"] (spPick K) := by
  refine F.ok scL_pick (fun vs H Q E h => ?_) (fun cdv A outer s H vs Q E hr h => ?_)
  · obtain ⟨j, c, a, xs, rfl, _⟩ := h
    rfl
  · obtain ⟨j, c, a, xs, rfl, J, hS, hn, l0, l1, k⟩ := h
    refine ⟨_, (pss_one (ps_ret (pe_ix ix_seq (pv 1) (pe_call D_law_draw.ok hr rfl D_law_draw.mg D_law_draw.kp D_law_draw.bd .nil pass0 (pa_cons (pv 0) (pa_cons (pe_callB call_len_seq rfl T.b_len T.o_len (pa_cons (pv 1) pa_nil)) pa_nil))) (fun _ _ => rfl)))), ?_⟩
    refine ⟨_, rfl, _, rfl, _, rfl, a, xs, rfl, hS, j, c, _, rfl, J, by omega, by omega, fun d H' d0 d1 J' B => ?_⟩
    obtain ⟨i, v, e1, e2⟩ := at_int d0 d1
    have z := k i v H' e1 J' B
    rcases B.sq J hS hn with h | h
    · exact .inl ⟨a, xs, d, v, rfl, rfl, h, e2, z⟩
    · exact .inr (.inl ⟨a, xs, d, v, rfl, rfl, h, e2, z⟩)
/-! ### _law_mixed -/
def spMixed (K : PySem.W.Frag) : Sp := fun vs H Q _ => ∃ (j c a : Addr) (xs : List V), vs = [.ref j, .ref a] ∧ Jar K H j c ∧ Sq K H a xs ∧ xs.length < 1000000 ∧
  ∀ p ys H', H p = none → ys.Perm xs → Jar K H' j c → But j H H' → H' p = some (.lst ys) → Q (.ref p) H'
abbrev sL_mixed : Stmt := top 24
abbrev nL_mixed : List Str := ["jar", "things", "left", "made", "turn"]
theorem scL_mixed : FnScope nL_mixed ["jar", "things"] (defScope sL_mixed) := ⟨rfl, rfl, rfl, by decide +kernel, rfl, by decide +kernel, by decide +kernel⟩
theorem perm_pop {left made xs : List V} {k : Nat} {y : V} (h : (made ++ left).Perm xs) (e : left[k]? = some y) : ((made ++ [y]) ++ left.eraseIdx k).Perm xs := by
  have hk := (List.getElem?_eq_some_iff.mp e).1
  have q : left.Perm (y :: left.eraseIdx k) := by
    have z := (List.getElem?_eq_some_iff.mp e).2
    rw [← z, List.eraseIdx_eq_take_drop_succ]
    have e3 : left = left.take k ++ left[k] :: left.drop (k + 1) := by rw [← List.drop_eq_getElem_cons hk, List.take_append_drop]
    have e4 := List.perm_middle (a := left[k]) (l₁ := left.take k) (l₂ := left.drop (k + 1))
    exact (List.Perm.of_eq e3).trans e4
  refine List.Perm.trans ?_ h
  rw [List.append_assoc]
  exact List.Perm.append_left made q.symm
theorem ok_mixed {f : Addr} {fd : FuncData} (F : Fun K "_law_mixed" "_law_mixed" sL_mixed f fd) (T : Bt mg) (D_law_draw : Dn P w K mg base 1 "_law_draw" ["jar", "many"] (spDraw K)) : FnOk P w K mg base CX0 2 f fd ["jar", "things"] (spMixed K) := by
  refine F.ok scL_mixed (fun vs H Q E h => ?_) (fun cdv A outer s H vs Q E hr h => ?_)
  · obtain ⟨j, c, a, xs, rfl, _⟩ := h
    rfl
  · obtain ⟨j, c, a, xs, rfl, J, hS, hl, k⟩ := h
    refine ⟨_, (pss_cons (ps_set (i := 2) scL_mixed.nd rfl (Or.inl rfl) (pe_callTy call_list_of rfl T.b_list T.o_list (pa_cons (pv 1) pa_nil)))
      (pss_cons (ps_set (i := 3) scL_mixed.nd rfl (Or.inl rfl) (pe_lst pa_nil))
      (pss_cons (ps_for PassesOwn.never rfl (pi_range1 rfl T.b_range (pa_cons (pe_callB call_len_seq rfl T.b_len T.o_len (pa_cons (pv 2) pa_nil)) pa_nil)) (pg_name (i := 4) scL_mixed.nd rfl (Or.inl rfl))
      (pss_one (ps_expr (pe_bm PySem.F.plainAttrs_list PySem.F.slot_list_append PySem.F.type_list_append mt_append (pv 3) (pa_cons (pe_bm PySem.F.plainAttrs_list PySem.F.slot_list_pop PySem.F.type_list_pop mt_popAt (pv 2) (pa_cons (pe_call D_law_draw.ok hr rfl D_law_draw.mg D_law_draw.kp D_law_draw.bd .nil pass0 (pa_cons (pv 0) (pa_cons (pe_callB call_len_seq rfl T.b_len T.o_len (pa_cons (pv 2) pa_nil)) pa_nil))) pa_nil)) pa_nil)))))
      (pss_one (ps_ret (pv 3)))))), ?_⟩
    refine ⟨_, rfl, a, xs, rfl, hS, fun p hp => ?_⟩
    refine ⟨by show 0 ≤ sizeLine; decide, fun q hq => ?_⟩
    have npq : p ≠ q := ne_of_none upd_same hq
    have nj : ∀ b, H b = none → b ≠ j := fun b n => J.nj n
    have nc : ∀ b, H b = none → b ≠ c := fun b n => J.nc n
    have hq0 : H q = none := (same_new (o := .lst xs) hp).free hq
    have S2 : Same H (upd (upd H p (.lst xs)) q (.lst [])) := (same_new hp).trans (same_new hq)
    refine ⟨_, rfl, p, _, rfl, .inl (SqL.of (by rw [upd_ne npq]; exact upd_same)), xs.length, rfl, by omega, by omega, ?_⟩
    refine for_range (n := ((xs.length : Nat) : Int).toNat) (fun i σ H2 => ∃ (v : Option V) (ls ms : List V), σ = [some (.ref j), some (.ref a), some (.ref p), some (.ref q), v] ∧ H2 p = some (.lst ls) ∧ H2 q = some (.lst ms) ∧ (ms ++ ls).Perm xs ∧ i + ls.length = xs.length ∧ Jar K H2 j c ∧ But j H H2)
      ⟨none, xs, [], rfl, by rw [upd_ne npq]; exact upd_same, upd_same, List.Perm.refl _, by omega, J.same S2, But.of S2⟩ ?_ ?_
    · rintro i σ H2 hi ⟨v, ls, ms, rfl, hp2, hq2, pm, hl2, J2, B2⟩
      have hi' : i < xs.length := by omega
      have pl := pm.length_eq
      rw [List.length_append] at pl
      refine ⟨_, rfl, .inl ⟨rfl, _, SqL.of hq2⟩, _, rfl, .inl ⟨rfl, _, SqL.of hp2⟩, _, rfl, _, rfl, p, _, rfl,   .inl (SqL.of hp2), j, c, _, rfl, J2, by omega, by omega, fun d H3 d0 d1 J3 B3 => ?_⟩
      obtain ⟨m, y, e1, e2⟩ := at_int d0 d1
      have ed : seqIndex? d ls.length = some d.toNat := seqIndex_of d0 d1
      have hy : ∃ y, ls[d.toNat]? = some y := ⟨ls[d.toNat]'(by omega), List.getElem?_eq_getElem (by omega)⟩
      obtain ⟨y, hy⟩ := hy
      have hp3 := B3 _ _ hp2 (nj p hp)
      have hq3 := B3 _ _ hq2 (nj q hq0)
      refine ⟨p, ls, d, d.toNat, y, rfl, rfl, hp3, by omega, by omega, ed, hy, q, ms, y, rfl, rfl, by rw [upd_ne npq.symm]; exact hq3, by show ms.length < 16777216; omega, ?_⟩
      have er : (ls.eraseIdx d.toNat).length = ls.length - 1 := List.length_eraseIdx_of_lt (by omega)
      have B4 : But j H (upd (upd H3 p (.lst (ls.eraseIdx d.toNat))) q (.lst (ms ++ [y]))) := fun b o hb n => by
        have hbp : b ≠ p := ne_of_none hb hp
        have hbq : b ≠ q := ne_of_none hb hq0
        rw [upd_ne hbq, upd_ne hbp]
        exact B3 _ _ (B2 _ _ hb n) n
      exact ⟨_, _, _, rfl, by rw [upd_ne npq]; exact upd_same, upd_same, perm_pop pm hy, by rw [er]; omega, (J3.upd (nj p hp) (nc p hp)).upd (nj q hq0) (nc q hq0), B4⟩
    · rintro σ H2 ⟨v, ls, ms, rfl, hp2, hq2, pm, hl2, J2, B2⟩
      have : ls = [] := List.eq_nil_of_length_eq_zero (by omega)
      subst this
      rw [List.append_nil] at pm
      exact ⟨_, rfl, k q ms H2 hq0 pm J2 B2 hq2⟩
end Bq
set_option Elab.async false
set_option linter.all false
set_option maxRecDepth 100000
set_option maxHeartbeats 4000000
namespace Bq
open PySem L2
variable {P : Program} {w : World} {K : PySem.W.Frag} {mg : Str → Option Value} {base : Heap}
/-! ### _law_dress -/
def spDress (K : PySem.W.Frag) : Sp := fun vs H Q _ => ∃ (j c a : Addr) (xs : List V), vs = [.ref j, .ref a] ∧ Jar K H j c ∧ Sq K H a xs ∧ (SqT K H a xs ∨ a ≠ j) ∧
  ∀ p H', Jar K H' j c → But j H H' → Sq K H' p xs → (SqT K H' p xs ∨ p ≠ j) → Q (.ref p) H'
abbrev sL_dress : Stmt := top 25
abbrev nL_dress : List Str := ["jar", "things"]
theorem scL_dress : FnScope nL_dress ["jar", "things"] (defScope sL_dress) := ⟨rfl, rfl, rfl, by decide +kernel, rfl, by decide +kernel, by decide +kernel⟩
theorem ok_dress {f : Addr} {fd : FuncData} (F : Fun K "_law_dress" "_law_dress" sL_dress f fd) (T : Bt mg) (D_law_draw : Dn P w K mg base 1 "_law_draw" ["jar", "many"] (spDraw K)) : FnOk P w K mg base CX0 2 f fd ["jar", "things"] (spDress K) := by
  refine F.ok scL_dress (fun vs H Q E h => ?_) (fun cdv A outer s H vs Q E hr h => ?_)
  · obtain ⟨j, c, a, xs, rfl, _⟩ := h
    rfl
  · obtain ⟨j, c, a, xs, rfl, J, hS, hn, k⟩ := h
    refine ⟨_, (pss_one (ps_ret (pe_ifExp (pt_cmpR op_eq (pe_call D_law_draw.ok (hr.mono (by decide)) rfl D_law_draw.mg D_law_draw.kp D_law_draw.bd .nil pass0 (pa_cons (pv 0) (pa_cons pe_int pa_nil))) pe_int (nomark _)) (pe_callTy call_list_of rfl T.b_list T.o_list (pa_cons (pv 1) pa_nil)) (pe_callTy call_tuple_of rfl T.b_tuple T.o_tuple (pa_cons (pv 1) pa_nil))))), ?_⟩
    refine ⟨_, rfl, j, c, _, rfl, J, by decide, by decide, fun d H' d0 d1 J' B => ?_⟩
    have h2 := B.sq J hS hn
    refine ⟨rfl, _, rfl, ?_⟩
    have fresh : ∀ (p : Addr) (o : HO), H' p = none → But j H (upd H' p o) := fun p o hp => B.new hp
    refine ite2 (fun c1 => ?_) (fun c1 => ?_)
    · exact ⟨_, rfl, a, xs, rfl, h2, fun p hp => k p _ (J'.new hp) (fresh p _ hp) (.inl (SqL.of upd_same)) (.inr (J'.nj hp))⟩
    · rcases h2 with h | h
      · exact ⟨_, rfl, a, xs, rfl, .inl ⟨h, fun p hp => k p _ (J'.new hp) (fresh p _ hp) (.inr (SqT.of upd_same)) (.inr (J'.nj hp))⟩⟩
      · exact ⟨_, rfl, a, xs, rfl, .inr ⟨h, k a _ J' B (.inr h) (.inl h)⟩⟩
/-! ### _law_kept_words -/
def kept : List Str := ["all", "none", "pareto", "unobjected", "top", "majority", "scores", "equal", "and", "or", "less", "at", "nobody", "up"]
def spKept : Sp := fun vs H Q _ => vs = [] ∧ ∀ p, H p = none → Q (.ref p) (upd H p (.lst (kept.map V.str)))
abbrev sL_kept_words : Stmt := top 27
abbrev nL_kept_words : List Str := []
theorem scL_kept_words : FnScope nL_kept_words [] (defScope sL_kept_words) := ⟨rfl, rfl, rfl, by decide +kernel, rfl, by decide +kernel, by decide +kernel⟩
theorem ok_kept {f : Addr} {fd : FuncData} (F : Fun K "_law_kept_words" "_law_kept_words" sL_kept_words f fd) : FnOk P w K mg base CX0 1 f fd [] spKept := by
  refine F.ok scL_kept_words (fun vs H Q E h => ?_) (fun cdv A outer s H vs Q E hr h => ?_)
  · obtain ⟨rfl, _⟩ := h
    rfl
  · obtain ⟨rfl, k⟩ := h
    refine ⟨_, (pss_one (ps_ret (pe_split pe_str pe_str))), ?_⟩
    refine ⟨⟨_, rfl⟩, _, _, rfl, rfl, by decide +kernel, by decide +kernel, fun p hp => ?_⟩
    have e : Txt.split "all none pareto unobjected top majority scores equal and or less at nobody up" " " = kept := by decide +kernel
    have z := k p hp
    rw [← e] at z
    exact z
/-! ### _law_word -/
def spWord (K : PySem.W.Frag) : Sp := fun vs H Q _ => ∃ (j c a : Addr) (ss : List Str), vs = [.ref j, .ref a] ∧ Jar K H j c ∧ H a = some (.lst (ss.map V.str)) ∧ a ≠ j ∧ ss.length < 1000 ∧
  ∀ (z : Str) H', Wd z → z.length < 2000 → z ∉ ss → Jar K H' j c → But j H H' → Q (.str z) H'
abbrev sL_word : Stmt := top 28
abbrev nL_word : List Str := ["jar", "taken", "made", "turn"]
theorem scL_word : FnScope nL_word ["jar", "taken"] (defScope sL_word) := ⟨rfl, rfl, rfl, by decide +kernel, rfl, by decide +kernel, by decide +kernel⟩
theorem kept_q (z : Str) : z ++ (⟨#[113]⟩ : Str) ∉ kept := by
  intro h
  have q : ∀ x ∈ kept, x.cps.toList.getLast? ≠ some 113 := by decide +kernel
  refine q _ h ?_
  rw [app_cps]
  simp
def qs (z : Str) : Nat → Str
  | 0 => z
  | n + 1 => qs z n ++ (⟨#[113]⟩ : Str)
theorem qs_len (z : Str) : ∀ n, (qs z n).length = z.length + n
  | 0 => rfl
  | n + 1 => by
    show (qs z n ++ (⟨#[113]⟩ : Str)).length = _
    rw [app_len, qs_len z n]
    rfl
theorem qs_wd {z : Str} (h : Wd z) : ∀ n, Wd (qs z n)
  | 0 => h
  | n + 1 => (qs_wd h n).add (by decide)
/-- when the loop comes to its end, the last word is new -/
theorem qs_new {z : Str} {ss : List Str} (h : ∀ i, i < ss.length + 1 → qs z i ∈ ss ∨ qs z i ∈ kept) : qs z (ss.length + 1) ∉ ss := by
  intro hm
  have q := boxes ss.length ss (fun i => qs z (i + 1)) (fun i j _ _ e => by
    have e' : (qs z (i + 1)).length = (qs z (j + 1)).length := congrArg Str.length e
    rw [qs_len, qs_len] at e'
    omega) (fun i hi => by
    by_cases e : i = ss.length
    · subst e; exact hm
    · rcases h (i + 1) (by omega) with r | r
      · exact r
      · exact absurd r (kept_q _))
  omega
theorem ok_word {f : Addr} {fd : FuncData} (F : Fun K "_law_word" "_law_word" sL_word f fd) (T : Bt mg) (D_law_draw : Dn P w K mg base 1 "_law_draw" ["jar", "many"] (spDraw K)) (D_law_pick : Dn P w K mg base 2 "_law_pick" ["jar", "menu"] (spPick K))
    (D_law_kept_words : Dn P w K mg base 1 "_law_kept_words" [] spKept) : FnOk P w K mg base CX0 3 f fd ["jar", "taken"] (spWord K) := by
  refine F.ok scL_word (fun vs H Q E h => ?_) (fun cdv A outer s H vs Q E hr h => ?_)
  · obtain ⟨j, c, a, ss, rfl, _⟩ := h
    rfl
  · obtain ⟨j, c, a, ss, rfl, J, hS, hn, hl, k⟩ := h
    refine ⟨_, (pss_cons (ps_set (i := 2) scL_word.nd rfl (Or.inl rfl) (pe_ix ix_str pe_str (pe_call D_law_draw.ok (hr.mono (by decide)) rfl D_law_draw.mg D_law_draw.kp D_law_draw.bd .nil pass0 (pa_cons (pv 0) (pa_cons pe_int pa_nil))) (fun _ _ => rfl)))
      (pss_cons (ps_for PassesOwn.never rfl (pi_range1 rfl T.b_range (pa_cons (pe_call D_law_pick.ok (hr.mono (by decide)) rfl D_law_pick.mg D_law_pick.kp D_law_pick.bd .nil pass0 (pa_cons (pv 0) (pa_cons (pe_lst (pa_cons pe_int (pa_cons pe_int (pa_cons pe_int (pa_cons pe_int (pa_cons pe_int (pa_cons pe_int pa_nil))))))) pa_nil))) pa_nil)) (pg_name (i := 3) scL_word.nd rfl (Or.inl rfl))
      (pss_one (ps_set (i := 2) scL_word.nd rfl (Or.inl rfl) (pe_op op_add_str (pv 2) (pe_ix ix_str pe_str (pe_call D_law_draw.ok (hr.mono (by decide)) rfl D_law_draw.mg D_law_draw.kp D_law_draw.bd .nil pass0 (pa_cons (pv 0) (pa_cons pe_int pa_nil))) (fun _ _ => rfl))))))
      (pss_cons (ps_for PassesOwn.never rfl (pi_range1 rfl T.b_range (pa_cons (pe_op op_add (pe_callB call_len_seq rfl T.b_len T.o_len (pa_cons (pv 1) pa_nil)) pe_int) pa_nil)) (pg_name (i := 3) scL_word.nd rfl (Or.inl rfl))
      (pss_cons (ps_if (PW.pt (pw_and (pt_cmpR op_notIn_seq (pv 2) (pv 1) rfl) (pw_and1 (pt_cmpR op_notIn_seq (pv 2) (pe_call0 D_law_kept_words.ok (hr.mono (by decide)) rfl D_law_kept_words.mg D_law_kept_words.kp D_law_kept_words.bd .nil pass0) rfl)))) (pss_one ps_break) pss_nil)
      (pss_one (ps_set (i := 2) scL_word.nd rfl (Or.inl rfl) (pe_op op_add_str (pv 2) pe_str)))))
      (pss_one (ps_ret (pv 2)))))), ?_⟩
    -- made = 'abc..'[_law_draw(jar, 26)]
    refine ⟨_, rfl, j, c, _, rfl, J, by decide, by decide, fun d H1 d0 d1 J1 B1 => ?_⟩
    obtain ⟨x, hx⟩ := at_ints (xs := (("abcdefghijklmnopqrstuvwxyz" : Str).cps.toList)) d0 (by exact Int.lt_of_lt_of_le d1 (by decide +kernel))
    have lx : lower x = true := by
      have q : ∀ y ∈ (("abcdefghijklmnopqrstuvwxyz" : Str).cps.toList), lower y = true := by decide +kernel
      exact q x (at_mem hx)
    refine ⟨_, _, x, rfl, rfl, by decide +kernel, hx, ?_⟩
    have W0 : Wd ⟨#[x]⟩ := ⟨⟨x, [], rfl, lx, rfl⟩⟩
    -- range(_law_pick(jar, [0, 2, 1, 3, 4, 0]))
    refine ⟨_, rfl, (by show 6 ≤ sizeLine; decide), fun p hp => ?_⟩
    refine ⟨j, c, p, _, rfl, J1.new hp, .inl (SqL.of upd_same), .inr (J1.nj hp), by decide, by decide, fun i v H2 hv J2 B2 => ?_⟩
    have hv' : ∃ t : Int, v = .int t ∧ 0 ≤ t ∧ t ≤ 4 := by
      have hm := List.mem_of_getElem? hv
      simp only [List.mem_cons, List.not_mem_nil, or_false] at hm
      rcases hm with rfl | rfl | rfl | rfl | rfl | rfl
      · exact ⟨0, rfl, by decide, by decide⟩
      · exact ⟨2, rfl, by decide, by decide⟩
      · exact ⟨1, rfl, by decide, by decide⟩
      · exact ⟨3, rfl, by decide, by decide⟩
      · exact ⟨4, rfl, by decide, by decide⟩
      · exact ⟨0, rfl, by decide, by decide⟩
    obtain ⟨t, rfl, t0, t4⟩ := hv'
    have B2' : But j H H2 := B1.trans ((But.of (same_new hp)).trans B2)
    refine ⟨t, rfl, by omega, by omega, ?_⟩
    refine for_range (n := t.toNat) (fun i σ H3 => ∃ (v : Option V) (m : Str), σ = [some (.ref j), some (.ref a), some (.str m), v] ∧ Wd m ∧ m.length = 1 + i ∧ Jar K H3 j c ∧ But j H H3)
      ⟨none, _, rfl, W0, rfl, J2, B2'⟩ ?_ ?_
    · rintro i σ H3 hi ⟨v, m, rfl, wm, lm, J3, B3⟩
      refine ⟨_, rfl, _, rfl, j, c, _, rfl, J3, by decide, by decide, fun d H4 d0 d1 J4 B4 => ?_⟩
      obtain ⟨y, hy⟩ := at_ints (xs := (("abeilnoprstuxAZ019" : Str).cps.toList)) d0 (by exact Int.lt_of_lt_of_le d1 (by decide +kernel))
      have ly : alnum y = true := by
        have q : ∀ z ∈ (("abeilnoprstuxAZ019" : Str).cps.toList), alnum z = true := by decide +kernel
        exact q y (at_mem hy)
      refine ⟨_, _, y, rfl, rfl, by decide +kernel, hy, m, _, rfl, rfl, ?_, ?_⟩
      · show m.length + 1 ≤ 16777216
        omega
      · exact ⟨_, _, rfl, wm.add ly, by rw [app_len, lm]; rfl, J4, B3.trans B4⟩
    · rintro σ H3 ⟨v, m, rfl, wm, lm, J3, B3⟩
      -- for turn in range(len(taken) + 1)
      have hS3 := B3 _ _ hS hn
      refine ⟨_, rfl, a, _, rfl, .inl (SqL.of hS3), _, _, rfl, rfl, _, rfl, ?_, ?_, ?_⟩
      · show -(2 ^ 62) ≤ (((ss.map V.str).length : Nat) : Int) + 1
        omega
      · rw [List.length_map]
        show ((ss.length : Nat) : Int) + 1 < 2 ^ 62
        omega
      have en : ((((ss.map V.str).length : Nat) : Int) + 1).toNat = ss.length + 1 := by rw [List.length_map]; omega
      rw [en]
      refine for_range (n := ss.length + 1) (fun i σ H4 => ∃ (v : Option V), σ = [some (.ref j), some (.ref a), some (.str (qs m i)), v] ∧ (∀ l, l < i → qs m l ∈ ss ∨ qs m l ∈ kept) ∧ Jar K H4 j c ∧ But j H H4)
        ⟨v, rfl, fun l hl => absurd hl (Nat.not_lt_zero _), J3, B3⟩ ?_ ?_
      · rintro i σ H4 hi ⟨v, rfl, hq, J4, B4⟩
        have lq : (qs m i).length < 1900 := by rw [qs_len]; omega
        refine ⟨_, rfl, _, rfl, a, _, rfl, .inl (SqL.of (B4 _ _ hS hn)), rfl, flat_strs _, _, rfl, ?_⟩
        have step : ∀ (H5 : Hp), (qs m i ∈ ss ∨ qs m i ∈ kept) → Jar K H5 j c → But j H H5 → ∃ (v' : Option V), ([some (.ref j), some (.ref a), some (.str (qs m i ++ (⟨#[113]⟩ : Str))), some (V.int (0 + (i : Int)))] : St) = [some (.ref j), some (.ref a), some (.str (qs m (i + 1))), v'] ∧ (∀ l, l < i + 1 → qs m l ∈ ss ∨ qs m l ∈ kept) ∧ Jar K H5 j c ∧ But j H H5 := fun H5 h J5 B5 =>
          ⟨_, rfl, fun l hl => by
            by_cases e : l = i
            · subst e; exact h
            · exact hq l (by omega), J5, B5⟩
        have sz : (qs m i).length + 1 ≤ 16777216 := by omega
        rw [in_strs]
        refine ite2 (fun c1 => ?_) (fun c1 => ?_)
        · refine ⟨_, rfl, rfl, fun p5 hp5 => ?_⟩
          refine ⟨p5, _, rfl, .inl (SqL.of upd_same), rfl, flat_strs _, _, rfl, ?_⟩
          rw [in_strs]
          have J5 : Jar K (upd H4 p5 (.lst (kept.map V.str))) j c := J4.new hp5
          have B5 : But j H (upd H4 p5 (.lst (kept.map V.str))) := B4.new hp5
          refine ite2 (fun c2 => ?_) (fun c2 => ?_)
          · have n1 : qs m i ∉ ss := by simpa using c1
            exact ⟨_, rfl, k _ _ (qs_wd wm _) (by omega) n1 J5 B5⟩
          · have n2 : qs m i ∈ kept := by simpa using c2
            exact ⟨_, rfl, _, _, rfl, rfl, sz, step _ (.inr n2) J5 B5⟩
        · have n1 : qs m i ∈ ss := by simpa using c1
          exact ⟨_, rfl, _, _, rfl, rfl, sz, step _ (.inl n1) J4 B4⟩
      · rintro σ H4 ⟨v, rfl, hq, J4, B4⟩
        exact ⟨_, rfl, k _ H4 (qs_wd wm _) (by rw [qs_len]; omega) (qs_new hq) J4 B4⟩
/-! ### _law_words -/
def spWords (K : PySem.W.Frag) : Sp := fun vs H Q _ => ∃ (j c : Addr) (m : Int), vs = [.ref j, .int m] ∧ Jar K H j c ∧ 0 ≤ m ∧ m < 900 ∧
  ∀ (p : Addr) (ss : List Str) H', H p = none → ss.length = m.toNat → ss.Nodup → (∀ z, z ∈ ss → Wd z ∧ z.length < 2000) → Jar K H' j c → But j H H' → H' p = some (.lst (ss.map V.str)) → Q (.ref p) H'
abbrev sL_words : Stmt := top 29
abbrev nL_words : List Str := ["jar", "many", "made", "k"]
theorem scL_words : FnScope nL_words ["jar", "many"] (defScope sL_words) := ⟨rfl, rfl, rfl, by decide +kernel, rfl, by decide +kernel, by decide +kernel⟩
theorem ok_words {f : Addr} {fd : FuncData} (F : Fun K "_law_words" "_law_words" sL_words f fd) (T : Bt mg) (D_law_word : Dn P w K mg base 3 "_law_word" ["jar", "taken"] (spWord K)) : FnOk P w K mg base CX0 4 f fd ["jar", "many"] (spWords K) := by
  refine F.ok scL_words (fun vs H Q E h => ?_) (fun cdv A outer s H vs Q E hr h => ?_)
  · obtain ⟨j, c, m, rfl, _⟩ := h
    rfl
  · obtain ⟨j, c, m, rfl, J, hm0, hm, k⟩ := h
    refine ⟨_, (pss_cons (ps_set (i := 2) scL_words.nd rfl (Or.inl rfl) (pe_lst pa_nil))
      (pss_cons (ps_for PassesOwn.never rfl (pi_range1 rfl T.b_range (pa_cons (pv 1) pa_nil)) (pg_name (i := 3) scL_words.nd rfl (Or.inl rfl))
      (pss_one (ps_expr (pe_bm PySem.F.plainAttrs_list PySem.F.slot_list_append PySem.F.type_list_append mt_append (pv 2) (pa_cons (pe_call D_law_word.ok (hr.mono (by decide)) rfl D_law_word.mg D_law_word.kp D_law_word.bd .nil pass0 (pa_cons (pv 0) (pa_cons (pv 2) pa_nil))) pa_nil)))))
      (pss_one (ps_ret (pv 2))))), ?_⟩
    refine ⟨by show 0 ≤ sizeLine; decide, fun p hp => ?_⟩
    refine ⟨_, rfl, m, rfl, ?_, ?_, ?_⟩
    · show -(2 ^ 62) ≤ m
      omega
    · show m < 2 ^ 62
      omega
    refine for_range (n := m.toNat) (fun i σ H2 => ∃ (v : Option V) (ss : List Str), σ = [some (.ref j), some (.int m), some (.ref p), v] ∧ H2 p = some (.lst (ss.map V.str)) ∧ ss.length = i ∧ ss.Nodup ∧ (∀ z, z ∈ ss → Wd z ∧ z.length < 2000) ∧ Jar K H2 j c ∧ But j H H2)
      ⟨none, [], rfl, upd_same, rfl, List.nodup_nil, (fun _ h => by cases h), J.new hp, But.of (same_new hp)⟩ ?_ ?_
    · rintro i σ H2 hi ⟨v, ss, rfl, hp2, rfl, nd, wd, J2, B2⟩
      have pj : p ≠ j := J.nj hp
      refine ⟨_, rfl, .inl ⟨rfl, _, SqL.of hp2⟩, _, rfl, _, rfl, j, c, p, ss, rfl, J2, hp2, pj, by omega, fun z H3 wz lz nz J3 B3 => ?_⟩
      refine ⟨p, ss.map V.str, _, rfl, rfl, B3 _ _ hp2 pj, by rw [List.length_map]; show ss.length < 16777216; omega, ?_⟩
      refine ⟨_, ss ++ [z], rfl, by rw [upd_same, List.map_append]; rfl, by rw [List.length_append]; rfl, ?_, ?_, J3.upd pj (J.nc hp), ?_⟩
      · rw [List.nodup_append]
        exact ⟨nd, by simp, fun a ha b hb => by
          have : b = z := by simpa using hb
          subst this
          exact fun e => nz (e ▸ ha)⟩
      · intro x hx
        rcases List.mem_append.mp hx with h | h
        · exact wd x h
        · have : x = z := by simpa using h
          subst this
          exact ⟨wz, lz⟩
      · intro b o hb n
        rw [upd_ne (ne_of_none hb hp)]
        exact B3 _ _ (B2 _ _ hb n) n
    · rintro σ H2 ⟨v, ss, rfl, hp2, hl, nd, wd, J2, B2⟩
      exact ⟨_, rfl, k p ss H2 hp hl nd wd J2 B2 hp2⟩
end Bq
set_option Elab.async false
set_option linter.all false
set_option maxRecDepth 100000
set_option maxHeartbeats 4000000
namespace Bq
open PySem L2
variable {P : Program} {w : World} {K : PySem.W.Frag} {mg : Str → Option Value} {base : Heap}
/-! ### data of a depth -/
inductive Sm : Nat → PyData → Prop
  | non {n : Nat} : Sm (n + 1) .none
  | bl {n : Nat} (b : Bool) : Sm (n + 1) (.bool b)
  | int {n : Nat} (i : Int) : Sm (n + 1) (.int i)
  | str {n : Nat} (x : Str) : Sm (n + 1) (.str x)
  | list {n : Nat} {ds : List PyData} (h : ∀ d, d ∈ ds → Sm n d) (l : ds.length < 1000000) : Sm (n + 1) (.list ds)
  | tuple {n : Nat} {ds : List PyData} (h : ∀ d, d ∈ ds → Sm n d) (l : ds.length < 1000000) : Sm (n + 1) (.tuple ds)
theorem DpAll.get {H : Hp} : ∀ {vs : List V} {ds : List PyData} {i : Nat} {v : V}, DpAll K H vs ds → vs[i]? = some v → ∃ d, ds[i]? = some d ∧ Dp K H v d
  | _, _, _, _, .nil, e => by simp at e
  | _, _, 0, _, .cons r _, e => by simp at e; subst e; exact ⟨_, rfl, r⟩
  | _, _, i + 1, v, .cons _ t, e => by
    obtain ⟨d, h1, h2⟩ := DpAll.get (i := i) (v := v) t (by simpa using e)
    exact ⟨d, by simpa using h1, h2⟩
mutual
theorem Dp.same {H H' : Hp} (e : Same H H') : ∀ {v : V} {d : PyData}, Dp K H v d → Dp K H' v d
  | _, _, .non => .non
  | _, _, .bl b => .bl b
  | _, _, .int i => .int i
  | _, _, .str x => .str x
  | _, _, .lst h t => .lst (e.seq h) (DpAll.same e t)
  | _, _, .tup h t => .tup (by
      rcases h with (h | ⟨o, h⟩) | h
      · exact .inl (.inl (e _ _ h))
      · exact .inl (.inr ⟨o, e _ _ h⟩)
      · exact .inr h) (DpAll.same e t)
theorem DpAll.same {H H' : Hp} (e : Same H H') : ∀ {vs : List V} {ds : List PyData}, DpAll K H vs ds → DpAll K H' vs ds
  | _, _, .nil => .nil
  | _, _, .cons h t => .cons (Dp.same e h) (DpAll.same e t)
end
theorem Same.sqT {H H' : Hp} {a : Addr} {xs : List V} (e : Same H H') (h : SqT K H a xs) : SqT K H' a xs := by
  rcases h with (h | ⟨o, h⟩) | h
  · exact .inl (.inl (e _ _ h))
  · exact .inl (.inr ⟨o, e _ _ h⟩)
  · exact .inr h
def spSame (K : PySem.W.Frag) (n : Nat) : Sp := fun vs H Q _ => ∃ (v u : V) (d : PyData), vs = [v, u] ∧ Dp K H v d ∧ Dp K H u d ∧ Sm n d ∧ ∀ H', Same H H' → Q (.bl true) H'
abbrev sL_same : Stmt := top 26
abbrev nL_same : List Str := ["got", "due", "key", "k"]
theorem scL_same : FnScope nL_same ["got", "due"] (defScope sL_same) := ⟨rfl, rfl, rfl, by decide +kernel, rfl, by decide +kernel, by decide +kernel⟩
theorem ok_same {f : Addr} {fd : FuncData} {n : Nat} (F : Fun K "_law_same" "_law_same" sL_same f fd) (T : Bt mg) (D_law_same : Dn P w K mg base n "_law_same" ["got", "due"] (spSame K n)) : FnOk P w K mg base CX0 (n + 1) f fd ["got", "due"] (spSame K (n + 1)) := by
  refine F.ok scL_same (fun vs H Q E h => ?_) (fun cdv A outer s H vs Q E hr h => ?_)
  · obtain ⟨v, u, d, rfl, _⟩ := h
    rfl
  · obtain ⟨v, u, d, rfl, hv, hu', sm, k⟩ := h
    refine ⟨_, (pss_cons (ps_if (pt_val (pe_callB (cIsi (K := K)) rfl T.b_isinstance T.o_isinstance (pa_cons (pv 1) (pa_cons (pe_bltn (v := .ty "bool") rfl T.b_bool T.o_bool rfl) pa_nil)))) (pss_one (ps_ret (pe_and (pe_callB (cIsi (K := K)) rfl T.b_isinstance T.o_isinstance (pa_cons (pv 0) (pa_cons (pe_bltn (v := .ty "bool") rfl T.b_bool T.o_bool rfl) pa_nil))) (pe_one (pe_cmpR op_eq (pv 0) (pv 1) (nomark _)))))) pss_nil)
      (pss_cons (ps_if (pt_val (pe_callB (cIsi (K := K)) rfl T.b_isinstance T.o_isinstance (pa_cons (pv 1) (pa_cons (pe_bltn (v := .ty "int") rfl T.b_int T.o_int rfl) pa_nil)))) (pss_one (ps_ret (pe_and (pe_callB (cIsi (K := K)) rfl T.b_isinstance T.o_isinstance (pa_cons (pv 0) (pa_cons (pe_bltn (v := .ty "int") rfl T.b_int T.o_int rfl) pa_nil))) (pe_and (pe_not (pe_callB (cIsi (K := K)) rfl T.b_isinstance T.o_isinstance (pa_cons (pv 0) (pa_cons (pe_bltn (v := .ty "bool") rfl T.b_bool T.o_bool rfl) pa_nil)))) (pe_one (pe_cmpR op_eq (pv 0) (pv 1) (nomark _))))))) pss_nil)
      (pss_cons (ps_if (pt_val (pe_callB (cIsi (K := K)) rfl T.b_isinstance T.o_isinstance (pa_cons (pv 1) (pa_cons (pe_bltn (v := .ty "str") rfl T.b_str T.o_str rfl) pa_nil)))) (pss_one (ps_ret (pe_and (pe_callB (cIsi (K := K)) rfl T.b_isinstance T.o_isinstance (pa_cons (pv 0) (pa_cons (pe_bltn (v := .ty "str") rfl T.b_str T.o_str rfl) pa_nil))) (pe_one (pe_cmpR op_eq (pv 0) (pv 1) (nomark _)))))) pss_nil)
      (pss_cons (ps_if (pt_val (pe_callB (cIsi (K := K)) rfl T.b_isinstance T.o_isinstance (pa_cons (pv 1) (pa_cons (pe_bltn (v := .ty "dict") rfl T.b_dict T.o_dict rfl) pa_nil)))) pss_never pss_nil)
      (pss_cons (ps_if (PW.pt (pw_or (pt_val (pe_callB (cIsi (K := K)) rfl T.b_isinstance T.o_isinstance (pa_cons (pv 1) (pa_cons (pe_bltn (v := .ty "list") rfl T.b_list T.o_list rfl) pa_nil)))) (pw_or1 (pt_val (pe_callB (cIsi (K := K)) rfl T.b_isinstance T.o_isinstance (pa_cons (pv 1) (pa_cons (pe_bltn (v := .ty "tuple") rfl T.b_tuple T.o_tuple rfl) pa_nil))))))) (pss_cons (ps_if (PW.pt (pw_or (pt_cmpR op_ne (pe_callB (cIsi (K := K)) rfl T.b_isinstance T.o_isinstance (pa_cons (pv 0) (pa_cons (pe_bltn (v := .ty "list") rfl T.b_list T.o_list rfl) pa_nil))) (pe_callB (cIsi (K := K)) rfl T.b_isinstance T.o_isinstance (pa_cons (pv 1) (pa_cons (pe_bltn (v := .ty "list") rfl T.b_list T.o_list rfl) pa_nil))) (nomark _)) (pw_or (pt_cmpR op_ne (pe_callB (cIsi (K := K)) rfl T.b_isinstance T.o_isinstance (pa_cons (pv 0) (pa_cons (pe_bltn (v := .ty "tuple") rfl T.b_tuple T.o_tuple rfl) pa_nil))) (pe_callB (cIsi (K := K)) rfl T.b_isinstance T.o_isinstance (pa_cons (pv 1) (pa_cons (pe_bltn (v := .ty "tuple") rfl T.b_tuple T.o_tuple rfl) pa_nil))) (nomark _)) (pw_or1 (pt_cmpR op_ne (pe_callB (cLen (K := K)) rfl T.b_len T.o_len (pa_cons (pv 0) pa_nil)) (pe_callB (cLen (K := K)) rfl T.b_len T.o_len (pa_cons (pv 1) pa_nil)) (nomark _)))))) (pss_one (ps_ret pe_bl)) pss_nil)
      (pss_one (ps_ret (pe_cmpR (oEqD (K := K) hr.units) (pe_lc (own := [("k", 3)]) (g := gName 3) rfl scL_same.nd (pi_range1 rfl T.b_range (pa_cons (pe_callB (cLen (K := K)) rfl T.b_len T.o_len (pa_cons (pv 1) pa_nil)) pa_nil)) (blkOk_by (own := [("k", 3)]) (N := nL_same) (sc := defScope sL_same) (by decide +kernel)) (fun _ _ _ _ _ => pg_name (i := 3) scL_same.nd rfl (Or.inl rfl)) (fun _ _ _ _ _ => (pts_one (pt_not (pt_val (pe_call D_law_same.ok (hr.mono (by omega)) rfl D_law_same.mg D_law_same.kp D_law_same.bd .nil pass0 (pa_cons (pe_ix (ixQ (K := K)) (pv 0) (pv 3) (fun _ _ => rfl)) (pa_cons (pe_ix (ixQ (K := K)) (pv 1) (pv 3) (fun _ _ => rfl)) pa_nil))))))) (fun _ _ _ _ _ => pe_int)) (pe_lst pa_nil) (nomark _))))) pss_nil)
      (pss_one (ps_ret (pe_and (pe_cmpR op_isN (pv 1) pe_non (nomark _)) (pe_one (pe_cmpR op_isN (pv 0) pe_non (nomark _))))))))))), ?_⟩
    have no : ∀ (x : V) (t : String), TyX K H x (.type t) → True := fun _ _ _ => trivial
    cases sm with
    | non =>
      cases hv
      cases hu'
      have ty : TyX K H .non (.type "NoneType") := .base .non
      refine isB rfl ty (by decide +kernel) (iteF ?_)
      refine isB rfl ty (by decide +kernel) (iteF ?_)
      refine isB rfl ty (by decide +kernel) (iteF ?_)
      refine isB rfl ty (by decide +kernel) (iteF ?_)
      refine isB rfl ty (by decide +kernel) (iteF ?_)
      refine isB rfl ty (by decide +kernel) (iteF ?_)
      exact ⟨_, rfl, rfl, _, rfl, iteT ⟨_, rfl, rfl, k H (Same.refl H)⟩⟩
    | bl b =>
      cases hv
      cases hu'
      have ty : TyX K H (.bl b) (.type "bool") := .base (.bl b)
      refine isB rfl ty (by decide +kernel) (iteT ?_)
      refine isV rfl ty (by decide +kernel) ⟨_, rfl, iteT ?_⟩
      refine ⟨_, rfl, _, rfl, rfl, ?_⟩
      show Q (V.bl (decide (V.bl b = V.bl b))) H
      rw [decide_eq_true rfl]
      exact k H (Same.refl H)
    | int i =>
      cases hv
      cases hu'
      have ty : TyX K H (.int i) (.type "int") := .base (.int i)
      refine isB rfl ty (by decide +kernel) (iteF ?_)
      refine isB rfl ty (by decide +kernel) (iteT ?_)
      refine isV rfl ty (by decide +kernel) ⟨_, rfl, iteT ?_⟩
      refine isV (b := false) rfl ty (by decide +kernel) ⟨_, rfl, _, rfl, iteT ?_⟩
      refine ⟨_, rfl, _, rfl, rfl, ?_⟩
      show Q (V.bl (decide (V.int i = V.int i))) H
      rw [decide_eq_true rfl]
      exact k H (Same.refl H)
    | str x =>
      cases hv
      cases hu'
      have ty : TyX K H (.str x) (.type "str") := .base (.str x)
      refine isB rfl ty (by decide +kernel) (iteF ?_)
      refine isB rfl ty (by decide +kernel) (iteF ?_)
      refine isB rfl ty (by decide +kernel) (iteT ?_)
      refine isV rfl ty (by decide +kernel) ⟨_, rfl, iteT ?_⟩
      refine ⟨_, rfl, _, rfl, rfl, ?_⟩
      show Q (V.bl (decide (V.str x = V.str x))) H
      rw [decide_eq_true rfl]
      exact k H (Same.refl H)
    | list h l =>
      rename_i ds
      cases hv with | lst hL hA => ?_
      cases hu' with | lst hL' hA' => ?_
      rename_i a xs a' ys
      have ty : TyX K H (.ref a) (.type "list") := ty_list hL
      have ty' : TyX K H (.ref a') (.type "list") := ty_list hL'
      refine isB rfl ty' (by decide +kernel) (iteF ?_)
      refine isB rfl ty' (by decide +kernel) (iteF ?_)
      refine isB rfl ty' (by decide +kernel) (iteF ?_)
      refine isB rfl ty' (by decide +kernel) (iteF ?_)
      refine isB rfl ty' (by decide +kernel) (iteT (iteT ?_))
      refine isV (b := true) rfl ty (by decide +kernel) (isV (b := true) rfl ty' (by decide +kernel) ⟨rfl, _, rfl, ?_⟩)
      refine iteF (isV (b := false) rfl ty (by decide +kernel) (isV (b := false) rfl ty' (by decide +kernel) ⟨rfl, _, rfl, iteF ?_⟩))
      refine ⟨_, rfl, a, xs, rfl, .inl hL, _, rfl, a', ys, rfl, .inl hL', rfl, _, rfl, ?_⟩
      have e : V.int (xs.length : Int) = V.int (ys.length : Int) := by rw [DpAll.len hA, DpAll.len hA']
      have e2 : (!decide (V.int (xs.length : Int) = V.int (ys.length : Int))) = false := by rw [decide_eq_true e]; rfl
      rw [e2]
      refine iteF ?_
      have lx := DpAll.len hA
      have ly := DpAll.len hA'
      refine ⟨_, rfl, a', ys, rfl, .inl hL', _, rfl, by omega, by omega, fun D hD => ?_⟩
      have en : ((ys.length : Nat) : Int).toNat = ys.length := by omega
      rw [en]
      have SD : Same H (upd H D (.lst [])) := same_new hD
      refine lc_range (lo := 0) (n := ys.length) (fun i H2 => H2 D = some (.lst []) ∧ Same H H2) ⟨upd_same, SD⟩ ?_ ?_
      · rintro i H2 hi ⟨hD2, S2⟩
        refine ⟨rfl, ?_⟩
        obtain ⟨x, hx⟩ : ∃ x, xs[i]? = some x := ⟨xs[i]'(by omega), List.getElem?_eq_getElem (by omega)⟩
        obtain ⟨y, hy⟩ : ∃ y, ys[i]? = some y := ⟨ys[i]'(by omega), List.getElem?_eq_getElem (by omega)⟩
        obtain ⟨dx, e3, px⟩ := DpAll.get hA hx
        obtain ⟨dy, e4, py⟩ := DpAll.get hA' hy
        have ed : dx = dy := Option.some.inj (e3.symm.trans e4)
        subst ed
        have ai : ∀ {zs : List V} {z : V}, zs[i]? = some z → atI zs (0 + (i : Int)) = some z := fun {zs z} q => by rw [Int.zero_add]; exact atI_nat q
        refine ⟨_, rfl, _, rfl, .inl ⟨a, xs, _, x, rfl, rfl, S2.seq hL, ai hx, ?_⟩⟩
        refine ⟨_, rfl, _, rfl, .inl ⟨a', ys, _, y, rfl, rfl, S2.seq hL', ai hy, ?_⟩⟩
        refine ⟨x, y, dx, rfl, Dp.same S2 px, Dp.same S2 py, h dx (List.mem_of_getElem? e3), fun H3 S3 => ?_⟩
        refine ⟨_, rfl, ?_⟩
        exact iteF ⟨S3 _ _ hD2, S2.trans S3⟩
      · rintro H2 ⟨hD2, S2⟩
        refine ⟨by show 0 ≤ sizeLine; decide, fun q hq => ?_⟩
        have Sq := same_new (o := .lst []) hq
        refine ⟨.list [], .list [], .lst (SqL.of (Sq _ _ hD2)) .nil, .lst (SqL.of upd_same) .nil, rfl, rfl, ?_⟩
        exact k _ (S2.trans Sq)
    | tuple h l =>
      rename_i ds
      cases hv with | tup hL hA => ?_
      cases hu' with | tup hL' hA' => ?_
      rename_i a xs a' ys
      have ty : TyX K H (.ref a) (.type "tuple") := ty_tuple hL
      have ty' : TyX K H (.ref a') (.type "tuple") := ty_tuple hL'
      refine isB rfl ty' (by decide +kernel) (iteF ?_)
      refine isB rfl ty' (by decide +kernel) (iteF ?_)
      refine isB rfl ty' (by decide +kernel) (iteF ?_)
      refine isB rfl ty' (by decide +kernel) (iteF ?_)
      refine isB rfl ty' (by decide +kernel) (iteF (isB rfl ty' (by decide +kernel) (iteT ?_)))
      refine isV (b := false) rfl ty (by decide +kernel) (isV (b := false) rfl ty' (by decide +kernel) ⟨rfl, _, rfl, ?_⟩)
      refine iteF (isV (b := true) rfl ty (by decide +kernel) (isV (b := true) rfl ty' (by decide +kernel) ⟨rfl, _, rfl, iteF ?_⟩))
      refine ⟨_, rfl, a, xs, rfl, .inr hL, _, rfl, a', ys, rfl, .inr hL', rfl, _, rfl, ?_⟩
      have e : V.int (xs.length : Int) = V.int (ys.length : Int) := by rw [DpAll.len hA, DpAll.len hA']
      have e2 : (!decide (V.int (xs.length : Int) = V.int (ys.length : Int))) = false := by rw [decide_eq_true e]; rfl
      rw [e2]
      refine iteF ?_
      have lx := DpAll.len hA
      have ly := DpAll.len hA'
      refine ⟨_, rfl, a', ys, rfl, .inr hL', _, rfl, by omega, by omega, fun D hD => ?_⟩
      have en : ((ys.length : Nat) : Int).toNat = ys.length := by omega
      rw [en]
      have SD : Same H (upd H D (.lst [])) := same_new hD
      refine lc_range (lo := 0) (n := ys.length) (fun i H2 => H2 D = some (.lst []) ∧ Same H H2) ⟨upd_same, SD⟩ ?_ ?_
      · rintro i H2 hi ⟨hD2, S2⟩
        refine ⟨rfl, ?_⟩
        obtain ⟨x, hx⟩ : ∃ x, xs[i]? = some x := ⟨xs[i]'(by omega), List.getElem?_eq_getElem (by omega)⟩
        obtain ⟨y, hy⟩ : ∃ y, ys[i]? = some y := ⟨ys[i]'(by omega), List.getElem?_eq_getElem (by omega)⟩
        obtain ⟨dx, e3, px⟩ := DpAll.get hA hx
        obtain ⟨dy, e4, py⟩ := DpAll.get hA' hy
        have ed : dx = dy := Option.some.inj (e3.symm.trans e4)
        subst ed
        have ai : ∀ {zs : List V} {z : V}, zs[i]? = some z → atI zs (0 + (i : Int)) = some z := fun {zs z} q => by rw [Int.zero_add]; exact atI_nat q
        refine ⟨_, rfl, _, rfl, .inr (.inl ⟨a, xs, _, x, rfl, rfl, Same.sqT S2 hL, ai hx, ?_⟩)⟩
        refine ⟨_, rfl, _, rfl, .inr (.inl ⟨a', ys, _, y, rfl, rfl, Same.sqT S2 hL', ai hy, ?_⟩)⟩
        refine ⟨x, y, dx, rfl, Dp.same S2 px, Dp.same S2 py, h dx (List.mem_of_getElem? e3), fun H3 S3 => ?_⟩
        refine ⟨_, rfl, ?_⟩
        exact iteF ⟨S3 _ _ hD2, S2.trans S3⟩
      · rintro H2 ⟨hD2, S2⟩
        refine ⟨by show 0 ≤ sizeLine; decide, fun q hq => ?_⟩
        have Sq := same_new (o := .lst []) hq
        refine ⟨.list [], .list [], .lst (SqL.of (Sq _ _ hD2)) .nil, .lst (SqL.of upd_same) .nil, rfl, rfl, ?_⟩
        exact k _ (S2.trans Sq)
theorem same0 {f : Addr} {fd : FuncData} : FnOk P w K mg base CX0 0 f fd ["got", "due"] (spSame K 0) := by
  have no : ∀ vs H Q E, ¬ spSame K 0 vs H Q E := fun vs H Q E h => by
    obtain ⟨v, u, d, _, _, _, sm, _⟩ := h
    cases sm
  exact ⟨fun vs H Q E h => absurd h (no vs H Q E), fun A outer s H args us vs Q E _ _ _ _ h => absurd h (no vs H Q E)⟩
theorem all_same {f : Addr} {fd : FuncData} (F : Fun K "_law_same" "_law_same" sL_same f fd) (T : Bt mg) (mf : mg "_law_same" = some (.ref f)) (bd : Binds K fd ["got", "due"] []) : ∀ n, FnOk P w K mg base CX0 n f fd ["got", "due"] (spSame K n)
  | 0 => same0
  | n + 1 => ok_same F T ⟨f, fd, all_same F T mf bd n, mf, F.kp, bd⟩
end Bq
set_option Elab.async false
set_option linter.all false
set_option maxRecDepth 100000
set_option maxHeartbeats 4000000
namespace Bq
open PySem L2
variable {P : Program} {w : World} {K : PySem.W.Frag} {mg : Str → Option Value} {base : Heap}
/-! ### _law_teams -/
theorem nn {H H' : Hp} {p : Addr} (e : Same H H') (h : H' p = none) : H p = none := by
  cases q : H p with
  | none => rfl
  | some o => rw [e _ _ q] at h; cases h
/-- a tuple of texts -/
def TupS (H : Hp) (v : V) (ws : List Str) : Prop := ∃ q, v = .ref q ∧ H q = some (.tup (ws.map V.str))
def TupI (H : Hp) (v : V) (ks : List Int) : Prop := ∃ q, v = .ref q ∧ H q = some (.tup (ks.map V.int))
theorem TupI.same {H H' : Hp} {v : V} {ks : List Int} (h : TupI H v ks) (e : Same H H') : TupI H' v ks := by
  obtain ⟨q, rfl, h⟩ := h
  exact ⟨q, rfl, e _ _ h⟩
theorem TupS.same {H H' : Hp} {v : V} {ks : List Str} (h : TupS H v ks) (e : Same H H') : TupS H' v ks := by
  obtain ⟨q, rfl, h⟩ := h
  exact ⟨q, rfl, e _ _ h⟩
/-- data of whole numbers -/
theorem dp_ints {H : Hp} : ∀ ks : List Int, DpAll K H (ks.map V.int) (ks.map PyData.int)
  | [] => .nil
  | k :: ks => .cons (.int k) (dp_ints ks)
theorem TupI.dp {H : Hp} {v : V} {ks : List Int} (h : TupI H v ks) : Dp K H v (.tuple (ks.map .int)) := by
  obtain ⟨q, rfl, h⟩ := h
  exact .tup (SqT.of h) (dp_ints ks)
theorem ints_lay : ∀ ks : List Int, PyData.canLayAll0 (ks.map .int) = true
  | [] => rfl
  | k :: ks => by
    rw [List.map_cons, PyData.canLayAll0, ints_lay ks, PyData.canLay0]
    rfl
theorem ints_deep : ∀ ks : List Int, PyData.depthAll (ks.map .int) = 0
  | [] => rfl
  | k :: ks => by
    rw [List.map_cons, PyData.depthAll, ints_deep ks, PyData.depth]
    rfl
theorem ints_alike : ∀ ks ls : List Int, PySem.W.alikeAll (ks.map .int) (ls.map .int) = true
  | [], _ => by rw [List.map_nil]; unfold PySem.W.alikeAll; rfl
  | k :: ks, [] => by rw [List.map_cons, List.map_nil]; unfold PySem.W.alikeAll; rfl
  | k :: ks, l :: ls => by
    rw [List.map_cons, List.map_cons]
    unfold PySem.W.alikeAll
    rw [ints_alike ks ls]
    simp [PySem.W.alike]
theorem ints_shaped (ks : List Int) : PySem.SeqAt.shaped (.tuple (ks.map .int)) = true := by
  unfold PySem.SeqAt.shaped
  rw [PyData.canLay0, ints_lay, PyData.depth, ints_deep]
  rfl
/-- a pair of a number and a row of numbers -/
def pairD (ks : List Int) : PyData := .tuple [.int ks.length, .tuple (ks.map .int)]
def PairI (H : Hp) (v : V) (ks : List Int) : Prop := ∃ r q, v = .ref r ∧ H r = some (.tup [.int ks.length, .ref q]) ∧ H q = some (.tup (ks.map V.int))
theorem PairI.same {H H' : Hp} {v : V} {ks : List Int} (h : PairI H v ks) (e : Same H H') : PairI H' v ks := by
  obtain ⟨r, q, rfl, h1, h2⟩ := h
  exact ⟨r, q, rfl, e _ _ h1, e _ _ h2⟩
theorem PairI.dp {H : Hp} {v : V} {ks : List Int} (h : PairI H v ks) : Dp K H v (pairD ks) := by
  obtain ⟨r, q, rfl, h1, h2⟩ := h
  exact .tup (SqT.of h1) (.cons (.int _) (.cons (.tup (SqT.of h2) (dp_ints ks)) .nil))
theorem pairs_dp (K : PySem.W.Frag) {H : Hp} : ∀ {xs : List V}, (∀ x, x ∈ xs → ∃ ks : List Int, PairI H x ks) → ∃ kss : List (List Int), DpAll K H xs (kss.map pairD)
  | [], _ => ⟨[], .nil⟩
  | x :: xs, h => by
    obtain ⟨ks, a⟩ := h x List.mem_cons_self
    obtain ⟨kss, b⟩ := pairs_dp K (xs := xs) fun y hy => h y (List.mem_cons_of_mem _ hy)
    exact ⟨ks :: kss, .cons a.dp b⟩
theorem pairs_alike (kss : List (List Int)) : PySem.W.AllAlike (kss.map pairD) := by
  intro d hd d' hd'
  obtain ⟨ks, _, rfl⟩ := List.mem_map.mp hd
  obtain ⟨ls, _, rfl⟩ := List.mem_map.mp hd'
  simp [pairD, PySem.W.alike, PySem.W.alikeAll, ints_alike]
theorem pairs_sortable (kss : List (List Int)) : PySem.W.Sortable (kss.map pairD) := .inl fun d hd => by
  obtain ⟨ks, _, rfl⟩ := List.mem_map.mp hd
  exact ⟨_, _, rfl⟩
theorem pairs_deep (kss : List (List Int)) : ∀ d, d ∈ kss.map pairD → d.depth ≤ 60 := fun d hd => by
  obtain ⟨ks, _, rfl⟩ := List.mem_map.mp hd
  simp [pairD, PyData.depth, PyData.depthAll, ints_deep]
def spTeams : Sp := fun vs H Q _ => ∃ (a : Addr) (ss : List Str), vs = [.ref a] ∧ H a = some (.lst (ss.map V.str)) ∧ 0 < ss.length ∧ ss.length ≤ 5 ∧
  ∀ p (ts : List V) H', H p = none → 0 < ts.length → ts.length ≤ 32 → (∀ t, t ∈ ts → ∃ ws, TupS H' t ws ∧ 0 < ws.length ∧ ws.length ≤ 5 ∧ ∀ z, z ∈ ws → z ∈ ss) → Same H H' → H' p = some (.lst ts) → Q (.ref p) H'
abbrev sL_teams : Stmt := top 30
abbrev nL_teams : List Str := ["folk", "spots", "k", "turned", "pair", "team"]
theorem scL_teams : FnScope nL_teams ["folk"] (defScope sL_teams) := ⟨rfl, rfl, rfl, by decide +kernel, rfl, by decide +kernel, by decide +kernel⟩
theorem ok_teams {f : Addr} {fd : FuncData} (F : Fun K "_law_teams" "_law_teams" sL_teams f fd) (T : Bt mg) : FnOk P w K mg base CX0 1 f fd ["folk"] spTeams := by
  refine F.ok scL_teams (fun vs H Q E h => ?_) (fun cdv A outer s H vs Q E hr h => ?_)
  · obtain ⟨a, ss, rfl, _⟩ := h
    rfl
  · obtain ⟨a, ss, rfl, hS, l0, l5, k⟩ := h
    refine ⟨_, (pss_cons (ps_set (i := 1) scL_teams.nd rfl (Or.inl rfl) (pe_lst (pa_cons (pe_tup pa_nil) pa_nil)))
      (pss_cons (ps_for PassesOwn.never rfl (pi_range1 rfl T.b_range (pa_cons (pe_callB (cLen (K := K)) rfl T.b_len T.o_len (pa_cons (pv 0) pa_nil)) pa_nil)) (pg_name (i := 2) scL_teams.nd rfl (Or.inr rfl))
      (pss_one (ps_set (i := 1) scL_teams.nd rfl (Or.inl rfl) (pe_op op_cat (pv 1) (pe_lc (own := [("team", 5)]) (g := gName 5) (tt := tYes) rfl scL_teams.nd (piL (K := K) (pv 1)) (blkOk_by (own := [("team", 5)]) (N := nL_teams) (sc := defScope sL_teams) (by decide +kernel)) (fun _ _ _ _ _ => pg_name (i := 5) scL_teams.nd rfl (Or.inl rfl)) (fun _ _ _ _ _ => pts_nil) (fun _ _ _ _ _ => (pe_op (oCatA (K := K)) (pv 5) (pe_tup (pa_cons (pv 2) pa_nil)))))))))
      (pss_cons (ps_set (i := 3) scL_teams.nd rfl (Or.inl rfl) (pe_callB (cSorted (K := K) hr.units) rfl T.b_sorted T.o_sorted (pa_cons (pe_lc (own := [("team", 5)]) (g := gName 5) rfl scL_teams.nd (piL (K := K) (pv 1)) (blkOk_by (own := [("team", 5)]) (N := nL_teams) (sc := defScope sL_teams) (by decide +kernel)) (fun _ _ _ _ _ => pg_name (i := 5) scL_teams.nd rfl (Or.inl rfl)) (fun _ _ _ _ _ => (pts_one (pt_cmpR (oNeD (K := K) hr.units) (pv 5) (pe_tup pa_nil) (nomark _)))) (fun _ _ _ _ _ => (pe_tup (pa_cons (pe_callB (cLen (K := K)) rfl T.b_len T.o_len (pa_cons (pv 5) pa_nil)) (pa_cons (pv 5) pa_nil))))) pa_nil)))
      (pss_one (ps_ret (pe_lc (own := [("pair", 4)]) (g := gName 4) (tt := tYes) rfl scL_teams.nd (piL (K := K) (pv 3)) (blkOk_by (own := [("pair", 4)]) (N := nL_teams) (sc := defScope sL_teams) (by decide +kernel)) (fun _ _ _ _ _ => pg_name (i := 4) scL_teams.nd rfl (Or.inl rfl)) (fun _ _ _ _ _ => pts_nil) (fun _ _ _ _ _ => (pe_callTy (cTuple (K := K)) rfl T.b_tuple T.o_tuple (pa_cons (pe_lc (own := [("k", 2)]) (g := gName 2) (tt := tYes) rfl scL_teams.nd (piT (K := K) (pe_ix (ixT (K := K)) (pv 4) pe_int (fun _ _ => rfl))) (blkOk_by (own := [("k", 2)]) (N := nL_teams) (sc := (relS ({ kind := PySem.ScopeKind.function, names := [(PySem.Str.ofString ".0", PySem.NameKind.local), (PySem.Str.ofString "pair", PySem.NameKind.local), (PySem.Str.ofString "tuple", PySem.NameKind.globalImplicit), (PySem.Str.ofString "folk", PySem.NameKind.free)], isGenerator := false, isCoroutine := false } : PySem.Scope) (defScope sL_teams))) (by decide +kernel)) (fun _ _ _ _ _ => pg_name (i := 2) scL_teams.nd rfl (Or.inl rfl)) (fun _ _ _ _ _ => pts_nil) (fun _ _ _ _ _ => (pe_ix (ixL (K := K)) (pv 0) (pv 2) (fun _ _ => rfl)))) pa_nil))))))))), ?_⟩
    -- spots = [()]
    refine ⟨by show 0 ≤ sizeLine; decide, fun e he => ?_⟩
    refine ⟨by show 1 ≤ sizeLine; decide, fun p hp => ?_⟩
    have S1 : Same H (upd (upd H e (.tup [])) p (.lst [.ref e])) := (same_new he).trans (same_new hp)
    have hE : (upd (upd H e (.tup [])) p (.lst [.ref e])) e = some (.tup []) := by rw [upd_ne (ne_of_none upd_same hp)]; exact upd_same
    refine ⟨_, rfl, a, _, rfl, .inl (SqL.of (S1 _ _ hS)), _, rfl, ?_, ?_, ?_⟩
    · show -(2 ^ 62) ≤ (((ss.map V.str).length : Nat) : Int)
      omega
    · rw [List.length_map]
      show ((ss.length : Nat) : Int) < 2 ^ 62
      omega
    have en : ((((ss.map V.str).length : Nat) : Int)).toNat = ss.length := by rw [List.length_map]; omega
    rw [en]
    refine for_range (n := ss.length) (fun i σ H2 => ∃ (v : Option V) (p : Addr) (xs : List V), σ = [some (.ref a), some (.ref p), v, none, none, none] ∧ H2 p = some (.lst xs) ∧ xs.length = 2 ^ i ∧ (∀ x, x ∈ xs → ∃ ks : List Int, TupI H2 x ks ∧ ks.length ≤ i ∧ ∀ k, k ∈ ks → 0 ≤ k ∧ k < i) ∧
        (0 < i → ∃ x, x ∈ xs ∧ ∃ ks : List Int, TupI H2 x ks ∧ 0 < ks.length) ∧ Same H H2)
      ⟨none, p, _, rfl, upd_same, rfl, (fun x hx => ⟨[], ⟨e, List.mem_singleton.mp hx, hE⟩, Nat.zero_le _, fun _ h => by cases h⟩), (fun h => absurd h (Nat.lt_irrefl 0)), S1⟩ ?_ ?_
    · rintro i σ H2 hi ⟨v, p, xs, rfl, hp2, lx, hx, _, S2⟩
      have pw : 2 ^ i ≤ 16 := by
        have : i ≤ 4 := by omega
        rcases i with _ | _ | _ | _ | _ | i <;> first | decide | omega
      refine ⟨_, rfl, _, rfl, p, rfl, ⟨_, SqL.of hp2⟩, fun D hD => ?_⟩
      have SD : Same H2 (upd H2 D (.lst [])) := same_new hD
      refine lc_list (a := p) (xs := xs) (fun t H3 => ∃ acc : List V, H3 D = some (.lst acc) ∧ acc.length = t ∧ Same H2 H3 ∧ H2 D = none ∧ (∀ x, x ∈ acc → ∃ ks : List Int, TupI H3 x ks ∧ 0 < ks.length ∧ ks.length ≤ i + 1 ∧ ∀ k, k ∈ ks → 0 ≤ k ∧ k < i + 1))
        ⟨[], upd_same, rfl, SD, hD, fun _ h => by cases h⟩ ?_ ?_ ?_
      · rintro t H3 ht ⟨acc, _, _, S3, _⟩
        exact S3.seq (SqL.of hp2)
      · rintro t x H3 hxt ⟨acc, hD3, rfl, S3, hn, ha⟩
        refine ⟨rfl, ?_⟩
        obtain ⟨ks, ⟨q, rfl, hq⟩, lk, hk⟩ := hx x (List.mem_of_getElem? hxt)
        have tl : acc.length < xs.length := (List.getElem?_eq_some_iff.mp hxt).1
        have hq3 := S3 _ _ hq
        refine ⟨_, rfl, _, rfl, (by show 1 ≤ sizeLine; decide), fun o ho => ?_⟩
        have So : Same H3 (upd H3 o (.tup [.int (0 + (i : Int))])) := same_new ho
        refine ⟨q, o, _, _, rfl, rfl, SqT.of (So _ _ hq3), SqT.of upd_same, ?_, ?_, ?_, ?_⟩
        · rw [List.length_map]
          show ks.length + 1 ≤ 16777216
          omega
        · intro e0
          have e1 : ks = [] := by simpa using e0
          subst e1
          refine ⟨acc, So _ _ hD3, by show acc.length < 16777216; omega, acc ++ [.ref o], upd_same, by simp, ?_, hn, ?_⟩
          · exact fun b u hb => by
              rw [upd_ne (ne_of_none hb hn)]
              exact So _ _ (S3 _ _ hb)
          · intro x hx
            have oD : o ≠ D := fun h => by rw [h, hD3] at ho; cases ho
            have Su : ∀ {v ks}, TupI H3 v ks → TupI (upd (upd H3 o (.tup [.int (0 + (i : Int))])) D (.lst (acc ++ [.ref o]))) v ks := by
              rintro v ks ⟨q, rfl, h⟩
              refine ⟨q, rfl, ?_⟩
              have qD : q ≠ D := fun e => by rw [e, hD3] at h; cases h
              rw [upd_ne qD]
              exact So _ _ h
            rcases List.mem_append.mp hx with h | h
            · obtain ⟨ks, t, l⟩ := ha x h
              exact ⟨ks, Su t, l⟩
            · have : x = .ref o := by simpa using h
              subst this
              refine ⟨[0 + (i : Int)], ⟨o, rfl, ?_⟩, by simp, by simp, fun k hk => ?_⟩
              · rw [upd_ne oD]; exact upd_same
              · have : k = 0 + (i : Int) := by simpa using hk
                omega
        · intro _ h
          cases h
        · intro _ _ z hz
          have Sz : Same (upd H3 o (.tup [.int (0 + (i : Int))])) (upd (upd H3 o (.tup [.int (0 + (i : Int))])) z (.tup (ks.map V.int ++ [.int (0 + (i : Int))]))) := same_new hz
          have SS := So.trans Sz
          refine ⟨acc, SS _ _ hD3, by show acc.length < 16777216; omega, acc ++ [.ref z], upd_same, by simp, ?_, hn, ?_⟩
          · exact fun b u hb => by
              rw [upd_ne (ne_of_none hb hn)]
              exact SS _ _ (S3 _ _ hb)
          · intro x hx
            have zD : z ≠ D := fun h => by rw [h, So _ _ hD3] at hz; cases hz
            rcases List.mem_append.mp hx with h | h
            · obtain ⟨ks, ⟨q, rfl, hh⟩, l⟩ := ha x h
              refine ⟨ks, ⟨q, rfl, ?_⟩, l⟩
              have qD : q ≠ D := fun e => by rw [e, hD3] at hh; cases hh
              rw [upd_ne qD]
              exact SS _ _ hh
            · have : x = .ref z := by simpa using h
              subst this
              refine ⟨ks ++ [0 + (i : Int)], ⟨z, rfl, ?_⟩, by simp, by simp; omega, fun k hk' => ?_⟩
              · rw [upd_ne zD, upd_same, List.map_append]; rfl
              · rcases List.mem_append.mp hk' with h | h
                · have := hk k h
                  omega
                · have : k = 0 + (i : Int) := by simpa using h
                  omega
      · rintro H3 ⟨acc, hD3, la, S3, hn, ha⟩
        refine ⟨p, D, _, _, rfl, rfl, S3 _ _ hp2, hD3, by show _ ≤ 16777216; omega, fun u hu => ?_⟩
        have Su : Same H3 (upd H3 u (.lst (xs ++ acc))) := same_new hu
        refine ⟨_, u, xs ++ acc, rfl, upd_same, ?_, ?_, ?_, S2.trans (S3.trans Su)⟩
        · rw [List.length_append, la, lx, Nat.pow_succ]
          omega
        · intro x hx'
          rcases List.mem_append.mp hx' with h | h
          · obtain ⟨ks, t, l, k⟩ := hx x h
            exact ⟨ks, t.same (S3.trans Su), by omega, fun z hz => by have := k z hz; omega⟩
          · obtain ⟨ks, t, _, l, k⟩ := ha x h
            exact ⟨ks, t.same Su, by omega, fun z hz => by have := k z hz; omega⟩
        · intro _
          have h0 : 0 < acc.length := by
            rw [la, lx]
            exact Nat.two_pow_pos i
          refine ⟨acc[0], List.mem_append_right _ (List.getElem_mem h0), ?_⟩
          obtain ⟨ks, t, l, _⟩ := ha _ (List.getElem_mem h0)
          exact ⟨ks, t.same Su, l⟩
    · rintro σ H2 ⟨v, p, xs, rfl, hp2, lx, hx, hne, S2⟩
      have pw : 2 ^ ss.length ≤ 32 := by
        generalize ss.length = i at *
        rcases i with _ | _ | _ | _ | _ | _ | i <;> first | decide | omega
      refine ⟨_, rfl, p, rfl, ⟨_, SqL.of hp2⟩, fun D hD => ?_⟩
      have SD : Same H2 (upd H2 D (.lst [])) := same_new hD
      refine lc_list (a := p) (xs := xs) (fun t H3 => ∃ acc : List V, H3 D = some (.lst acc) ∧ acc.length ≤ t ∧ Same H2 H3 ∧ H2 D = none ∧ (∀ x, x ∈ acc → ∃ ks : List Int, PairI H3 x ks ∧ 0 < ks.length ∧ ks.length ≤ ss.length ∧ ∀ k, k ∈ ks → 0 ≤ k ∧ k < ss.length) ∧
          (∀ j x (ks : List Int), j < t → xs[j]? = some x → TupI H2 x ks → 0 < ks.length → 0 < acc.length))
        ⟨[], upd_same, Nat.le_refl _, SD, hD, (fun _ h => by cases h), fun j _ _ h => absurd h (Nat.not_lt_zero j)⟩ ?_ ?_ ?_
      · rintro t H3 ht ⟨acc, _, _, S3, _⟩
        exact S3.seq (SqL.of hp2)
      · rintro t x H3 hxt ⟨acc, hD3, la, S3, hn, ha, hm⟩
        refine ⟨rfl, ?_⟩
        obtain ⟨ks, ⟨q, rfl, hq⟩, lk, hk⟩ := hx x (List.mem_of_getElem? hxt)
        have tl : t < xs.length := (List.getElem?_eq_some_iff.mp hxt).1
        have hq3 := S3 _ _ hq
        have ht3 : TupI H3 (.ref q) ks := ⟨q, rfl, hq3⟩
        refine ⟨_, rfl, (by show 0 ≤ sizeLine; decide), fun o ho => ?_⟩
        have So : Same H3 (upd H3 o (.tup [])) := same_new ho
        refine ⟨.tuple (ks.map .int), .tuple [], (ht3.same So).dp, .tup (SqT.of upd_same) .nil, ints_shaped ks, rfl, ?_⟩
        have keep : ∀ {H4 : Hp} {u : HO}, Same H3 H4 → Same H2 (upd H4 D u) := fun e b v hb => by
          rw [upd_ne (ne_of_none hb hn)]
          exact e _ _ (S3 _ _ hb)
        rcases ks with _ | ⟨k0, kr⟩
        · refine ⟨_, rfl, iteF ?_⟩
          refine ⟨acc, So _ _ hD3, by omega, S3.trans So, hn, fun x h => ?_, fun j x ks hj he ht h0 => ?_⟩
          · obtain ⟨ks, t, l⟩ := ha x h
            exact ⟨ks, t.same So, l⟩
          · rcases Nat.lt_or_ge j t with h | h
            · exact hm j x ks h he ht h0
            · have : j = t := by omega
              subst this
              rw [hxt] at he
              cases he
              obtain ⟨q', e, h⟩ := ht
              cases e
              rw [hq] at h
              have h2 := Option.some.inj h
              cases ks with
              | nil => cases h0
              | cons => cases h2
        · refine ⟨_, rfl, iteT ?_⟩
          refine ⟨_, rfl, q, _, rfl, .inr (SqT.of (So _ _ hq3)), _, rfl, (by show 2 ≤ sizeLine; decide), fun r hr => ?_⟩
          have Sr := So.trans (same_new (o := .tup [.int (((k0 :: kr).map V.int).length : Nat), .ref q]) hr)
          have rD : r ≠ D := fun e => by rw [e, So _ _ hD3] at hr; cases hr
          refine ⟨acc, Sr _ _ hD3, by show acc.length < 16777216; omega, acc ++ [.ref r], upd_same, by simp; omega, keep Sr, hn, fun x h => ?_, fun _ _ _ _ _ _ _ => by simp⟩
          rcases List.mem_append.mp h with h | h
          · obtain ⟨ks, ⟨r', q', rfl, h1, h2⟩, l⟩ := ha x h
            refine ⟨ks, ⟨r', q', rfl, ?_, ?_⟩, l⟩
            · rw [upd_ne (fun e => by rw [e, hD3] at h1; cases h1)]
              exact Sr _ _ h1
            · rw [upd_ne (fun e => by rw [e, hD3] at h2; cases h2)]
              exact Sr _ _ h2
          · have : x = .ref r := by simpa using h
            subst this
            refine ⟨k0 :: kr, ⟨r, q, rfl, ?_, ?_⟩, by simp, lk, hk⟩
            · rw [upd_ne rD, upd_same, List.length_map]
            · rw [upd_ne (fun e => by rw [e, hD3] at hq3; cases hq3)]
              exact Sr _ _ hq3
      · rintro H3 ⟨acc, hD3, la, S3, hn, ha, hm⟩
        have l1 : 0 < acc.length := by
          obtain ⟨x, hxm, ks, ht, h0⟩ := hne l0
          obtain ⟨j, hj, e⟩ := List.mem_iff_getElem.mp hxm
          exact hm j x ks hj (by rw [List.getElem?_eq_getElem hj, e]) ht h0
        obtain ⟨kss, hdp⟩ := pairs_dp K (H := H3) (xs := acc) fun x h => (ha x h).imp fun _ h => h.1
        refine ⟨D, acc, kss.map pairD, rfl, SqL.of hD3, hdp, pairs_alike kss, pairs_sortable kss, pairs_deep kss, fun z hz => ?_⟩
        have pm := sortD_perm (xs := acc) (ds := kss.map pairD) (DpAll.len hdp)
        generalize sortD acc (kss.map pairD) = ys at pm
        have Sz : Same H3 (upd H3 z (.lst ys)) := same_new hz
        have ly : ys.length = acc.length := pm.length_eq
        have hy : ∀ y, y ∈ ys → ∃ ks : List Int, PairI (upd H3 z (.lst ys)) y ks ∧ 0 < ks.length ∧ ks.length ≤ ss.length ∧ ∀ k, k ∈ ks → 0 ≤ k ∧ k < ss.length := fun y h => by
          obtain ⟨ks, t, l⟩ := ha y (pm.mem_iff.mp h)
          exact ⟨ks, t.same Sz, l⟩
        have S4 : Same H (upd H3 z (.lst ys)) := S2.trans (S3.trans Sz)
        have hz4 : (upd H3 z (.lst ys)) z = some (.lst ys) := upd_same
        generalize upd H3 z (.lst ys) = H4 at hy S4 hz4
        refine ⟨_, rfl, z, rfl, ⟨_, SqL.of hz4⟩, fun E hE => ?_⟩
        have SE : Same H4 (upd H4 E (.lst [])) := same_new hE
        refine lc_list (a := z) (xs := ys) (fun t H5 => ∃ ts : List V, H5 E = some (.lst ts) ∧ ts.length = t ∧ Same H4 H5 ∧ (∀ t, t ∈ ts → ∃ ws, TupS H5 t ws ∧ 0 < ws.length ∧ ws.length ≤ 5 ∧ ∀ z, z ∈ ws → z ∈ ss))
          ⟨[], upd_same, rfl, SE, fun _ h => by cases h⟩ ?_ ?_ ?_
        · rintro t H5 ht ⟨acc, _, _, S5, _⟩
          exact S5.seq (SqL.of hz4)
        · rintro t x H5 hxt ⟨ts, hE5, rfl, S5, hts⟩
          refine ⟨rfl, ?_⟩
          obtain ⟨ks, ⟨r, q, rfl, hr, hq⟩, k0, k5, hk⟩ := hy x (List.mem_of_getElem? hxt)
          have tl : ts.length < ys.length := (List.getElem?_eq_some_iff.mp hxt).1
          have hr5 := S5 _ _ hr
          have hq5 := S5 _ _ hq
          have ha5 := S5 _ _ (S4 _ _ hS)
          refine ⟨_, rfl, r, _, 1, .ref q, rfl, rfl, SqT.of hr5, rfl, q, rfl, ⟨_, SqT.of hq5⟩, fun G hG => ?_⟩
          have SG : Same H5 (upd H5 G (.lst [])) := same_new hG
          refine lc_tup (a := q) (xs := ks.map V.int) (fun t H6 => ∃ ws : List Str, H6 G = some (.lst (ws.map V.str)) ∧ ws.length = t ∧ Same H5 H6 ∧ ∀ z, z ∈ ws → z ∈ ss)
            ⟨[], upd_same, rfl, SG, fun _ h => by cases h⟩ ?_ ?_ ?_
          · rintro t H6 ht ⟨ws, _, _, S6, _⟩
            exact Same.sqT S6 (SqT.of hq5)
          · rintro t x H6 hxt ⟨ws, hG6, rfl, S6, hws⟩
            have tl : ws.length < (ks.map V.int).length := (List.getElem?_eq_some_iff.mp hxt).1
            rw [List.length_map] at tl
            obtain ⟨k1, hk1, rfl⟩ := List.mem_map.mp (List.mem_of_getElem? hxt)
            obtain ⟨c0, c1⟩ := hk k1 hk1
            obtain ⟨n, rfl⟩ : ∃ n : Nat, k1 = (n : Int) := ⟨k1.toNat, by omega⟩
            have nl : n < ss.length := by omega
            refine ⟨rfl, _, rfl, _, rfl, a, ss.map V.str, (n : Int), .str ss[n], rfl, rfl, SqL.of (S6 _ _ ha5), atI_nat (by rw [List.getElem?_map, List.getElem?_eq_getElem nl]; rfl), ws.map V.str, hG6, by rw [List.length_map]; show ws.length < 16777216; omega, ws ++ [ss[n]], by rw [upd_same, List.map_append]; rfl, by simp, ?_, fun z hz => ?_⟩
            · exact fun b u hb => by
                rw [upd_ne (ne_of_none hb hG)]
                exact S6 _ _ hb
            · rcases List.mem_append.mp hz with h | h
              · exact hws z h
              · have : z = ss[n] := by simpa using h
                subst this
                exact List.getElem_mem nl
          · rintro H6 ⟨ws, hG6, lw, S6, hws⟩
            rw [List.length_map] at lw
            refine ⟨G, _, rfl, .inl ⟨SqL.of hG6, fun l hl => ?_⟩⟩
            have Sl := S6.trans (same_new (o := .tup (ws.map V.str)) hl)
            have lE : l ≠ E := fun e => by rw [e, S6 _ _ hE5] at hl; cases hl
            refine ⟨ts, Sl _ _ hE5, by show ts.length < 16777216; omega, ts ++ [.ref l], upd_same, by simp, ?_, fun t h => ?_⟩
            · exact fun b u hb => by
                rw [upd_ne (ne_of_none hb hE)]
                exact Sl _ _ (S5 _ _ hb)
            · rcases List.mem_append.mp h with h | h
              · obtain ⟨ws, ⟨q', rfl, h1⟩, l⟩ := hts t h
                refine ⟨ws, ⟨q', rfl, ?_⟩, l⟩
                rw [upd_ne (fun e => by rw [e, hE5] at h1; cases h1)]
                exact Sl _ _ h1
              · have : t = .ref l := by simpa using h
                subst this
                exact ⟨ws, ⟨l, rfl, by rw [upd_ne lE]; exact upd_same⟩, by omega, by omega, hws⟩
        · rintro H5 ⟨ts, hE5, lt, S5, hts⟩
          exact k E ts H5 (nn S4 hE) (by omega) (by omega) hts (S4.trans S5) hE5
end Bq
set_option Elab.async false
set_option linter.all false
set_option maxRecDepth 100000
set_option maxHeartbeats 4000000
namespace Bq
open PySem L2
variable {P : Program} {w : World} {K : PySem.W.Frag} {mg : Str → Option Value} {base : Heap}
/-! ### _law_tiers -/
/-- a list of texts -/
def LsS (H : Hp) (v : V) (ws : List Str) : Prop := ∃ q, v = .ref q ∧ H q = some (.lst (ws.map V.str))
/-- each of the one beside each of the other -/
inductive Two {α β : Type} (R : α → β → Prop) : List α → List β → Prop
  | nil : Two R [] []
  | cons {x : α} {y : β} {xs : List α} {ys : List β} (h : R x y) (t : Two R xs ys) : Two R (x :: xs) (y :: ys)
section
variable {α β : Type} {R S : α → β → Prop}
theorem Two.mono (m : ∀ a b, R a b → S a b) : ∀ {xs : List α} {ys : List β}, Two R xs ys → Two S xs ys
  | _, _, .nil => .nil
  | _, _, .cons h t => .cons (m _ _ h) (Two.mono m t)
theorem Two.len : ∀ {xs : List α} {ys : List β}, Two R xs ys → xs.length = ys.length
  | _, _, .nil => rfl
  | _, _, .cons _ t => by rw [List.length_cons, List.length_cons, Two.len t]
theorem Two.get : ∀ {xs : List α} {ys : List β} {i : Nat} {x : α}, Two R xs ys → xs[i]? = some x → ∃ y, ys[i]? = some y ∧ R x y
  | _, _, _, _, .nil, e => by simp at e
  | _, _, 0, _, .cons h _, e => by simp at e; subst e; exact ⟨_, rfl, h⟩
  | _, _, i + 1, x, .cons _ t, e => by
    obtain ⟨d, h1, h2⟩ := Two.get (i := i) (x := x) t (by simpa using e)
    exact ⟨d, by simpa using h1, h2⟩
theorem Two.snoc {x : α} {y : β} (r : R x y) : ∀ {xs : List α} {ys : List β}, Two R xs ys → Two R (xs ++ [x]) (ys ++ [y])
  | _, _, .nil => .cons r .nil
  | _, _, .cons h t => .cons h (Two.snoc r t)
theorem Two.last : ∀ {xs : List α} {ys : List β}, Two R xs ys → xs ≠ [] → ∃ xi x yi y, xs = xi ++ [x] ∧ ys = yi ++ [y] ∧ Two R xi yi ∧ R x y
  | _, _, .nil, n => absurd rfl n
  | _, _, .cons (xs := []) h .nil, _ => ⟨[], _, [], _, rfl, rfl, .nil, h⟩
  | _, _, .cons (xs := x2 :: xs) h t, _ => by
    obtain ⟨xi, x, yi, y, e1, e2, t', r⟩ := Two.last t (by simp)
    exact ⟨_ :: xi, x, _ :: yi, y, by rw [e1]; rfl, by rw [e2]; rfl, .cons h t', r⟩
end
/-- each sign is one -/
abbrev Cp (z : Str) : Prop := PyData.strOk z = true
theorem dp_strs {H : Hp} : ∀ ss : List Str, DpAll K H (ss.map V.str) (ss.map PyData.str)
  | [] => .nil
  | z :: ss => .cons (.str z) (dp_strs ss)
theorem strs_lay : ∀ {ss : List Str}, (∀ z, z ∈ ss → Cp z) → PyData.canLayAll0 (ss.map .str) = true
  | [], _ => rfl
  | z :: ss, h => by
    rw [List.map_cons, PyData.canLayAll0, strs_lay fun y hy => h y (List.mem_cons_of_mem _ hy), PyData.canLay0, h z List.mem_cons_self]
    rfl
theorem strs_deep : ∀ ss : List Str, PyData.depthAll (ss.map .str) = 0
  | [] => rfl
  | z :: ss => by
    rw [List.map_cons, PyData.depthAll, strs_deep ss, PyData.depth]
    rfl
def tierD (g : List Str) : PyData := .list (g.map .str)
theorem LsS.dp {H : Hp} {v : V} {g : List Str} (h : LsS H v g) : Dp K H v (tierD g) := by
  obtain ⟨q, rfl, h⟩ := h
  exact .lst (SqL.of h) (dp_strs g)
theorem tiers_dp {H : Hp} : ∀ {ts : List V} {gs : List (List Str)}, Two (LsS H) ts gs → DpAll K H ts (gs.map tierD)
  | _, _, .nil => .nil
  | _, _, .cons h t => .cons h.dp (tiers_dp t)
theorem tiers_lay : ∀ {gs : List (List Str)}, (∀ g, g ∈ gs → ∀ z, z ∈ g → Cp z) → PyData.canLayAll0 (gs.map tierD) = true
  | [], _ => rfl
  | g :: gs, h => by
    rw [List.map_cons, PyData.canLayAll0, tiers_lay fun y hy => h y (List.mem_cons_of_mem _ hy), tierD, PyData.canLay0, strs_lay (h g List.mem_cons_self)]
    rfl
theorem tiers_deep : ∀ gs : List (List Str), PyData.depthAll (gs.map tierD) ≤ 1
  | [] => by decide
  | g :: gs => by
    rw [List.map_cons, PyData.depthAll, tierD, PyData.depth, strs_deep]
    have := tiers_deep gs
    omega
theorem tiers_shaped {gs : List (List Str)} (h : ∀ g, g ∈ gs → ∀ z, z ∈ g → Cp z) : PySem.SeqAt.shaped (.list (gs.map tierD)) = true := by
  unfold PySem.SeqAt.shaped
  rw [PyData.canLay0, tiers_lay h, PyData.depth, Bool.true_and, decide_eq_true_iff]
  have := tiers_deep gs
  omega
def unstr : V → Str
  | .str z => z
  | _ => ⟨#[]⟩
theorem perm_strs {ys : List V} {ss : List Str} (h : ys.Perm (ss.map V.str)) : ∃ zs : List Str, ys = zs.map V.str ∧ zs.Perm ss := by
  refine ⟨ys.map unstr, ?_, ?_⟩
  · rw [List.map_map]
    have : ∀ y, y ∈ ys → V.str (unstr y) = y := fun y hy => by
      obtain ⟨z, _, rfl⟩ := List.mem_map.mp (h.mem_iff.mp hy)
      rfl
    exact (List.map_id ys).symm.trans (List.map_congr_left fun y hy => (this y hy).symm)
  · have q := h.map unstr
    rw [List.map_map] at q
    have e : ss.map (unstr ∘ V.str) = ss := by
      have : (unstr ∘ V.str) = id := rfl
      rw [this, List.map_id]
    rw [e] at q
    exact q
def spTiers (K : PySem.W.Frag) : Sp := fun vs H Q _ => ∃ (j c a : Addr) (ss : List Str), vs = [.ref j, .ref a] ∧ Jar K H j c ∧ H a = some (.lst (ss.map V.str)) ∧ 0 < ss.length ∧ ss.length ≤ 9 ∧ (∀ z, z ∈ ss → Cp z) ∧
  ∀ p (ts : List V) (gs : List (List Str)) H', H p = none → Two (LsS H') ts gs → gs.flatten.Perm ss → (∀ g, g ∈ gs → g ≠ []) → Jar K H' j c → But j H H' → H' p = some (.lst ts) → Q (.ref p) H'
abbrev sL_tiers : Stmt := top 31
abbrev nL_tiers : List Str := ["jar", "goals", "made", "goal"]
theorem scL_tiers : FnScope nL_tiers ["jar", "goals"] (defScope sL_tiers) := ⟨rfl, rfl, rfl, by decide +kernel, rfl, by decide +kernel, by decide +kernel⟩
theorem ix_last {n : Nat} : ixN (n + 1) (-1) = some n := by
  unfold ixN
  rw [if_neg (by decide), if_pos (by omega)]
  congr 1
  omega
theorem at_last {α : Type} (xs : List α) (v : α) : atI (xs ++ [v]) (-1) = some v := by
  unfold atI
  have : (xs ++ [v]).length = xs.length + 1 := by rw [List.length_append]; rfl
  rw [this, ix_last]
  simp
theorem But.lst {H H' : Hp} {j c q : Addr} {zs : List Str} (e : But j H H') (J : Jar K H j c) (h : H q = some (.lst (zs.map V.str))) : H' q = some (.lst (zs.map V.str)) := by
  refine e _ _ h fun i => ?_
  obtain ⟨ns, p, r, l, s, n, J⟩ := J
  rw [i, J.at_] at h
  have := Option.some.inj h
  cases zs <;> cases this
def tierInv (K : PySem.W.Frag) (H : Hp) (j c a p q : Addr) (zs : List Str) (i : Nat) (σ : L2.St) (H3 : Hp) : Prop :=
  ∃ (v : Option V) (ts : List V) (gs : List (List Str)), σ = [some (.ref j), some (.ref a), some (.ref p), v] ∧ H3 p = some (.lst ts) ∧ H3 q = some (.lst (zs.map V.str)) ∧
        Two (fun x g => x ≠ .ref p ∧ LsS H3 x g) ts gs ∧ gs.flatten = zs.take i ∧ (∀ g, g ∈ gs → g ≠ []) ∧ ts.length ≤ i ∧ Jar K H3 j c ∧ But j H H3
theorem ok_tiers {f : Addr} {fd : FuncData} (F : Fun K "_law_tiers" "_law_tiers" sL_tiers f fd) (T : Bt mg) (D_law_draw : Dn P w K mg base 1 "_law_draw" ["jar", "many"] (spDraw K)) (D_law_mixed : Dn P w K mg base 2 "_law_mixed" ["jar", "things"] (spMixed K)) : FnOk P w K mg base CX0 3 f fd ["jar", "goals"] (spTiers K) := by
  refine F.ok scL_tiers (fun vs H Q E h => ?_) (fun cdv A outer s H vs Q E hr h => ?_)
  · obtain ⟨j, c, a, ss, rfl, _⟩ := h
    rfl
  · obtain ⟨j, c, a, ss, rfl, J, hS, l0, l9, cp, k⟩ := h
    refine ⟨_, (pss_cons (ps_set (i := 2) scL_tiers.nd rfl (Or.inl rfl) (pe_lst pa_nil))
      (pss_cons (ps_for PassesOwn.never rfl (piL (K := K) (pe_call D_law_mixed.ok (hr.mono (by omega)) rfl D_law_mixed.mg D_law_mixed.kp D_law_mixed.bd .nil pass0 (pa_cons (pv 0) (pa_cons (pv 1) pa_nil)))) (pg_name (i := 3) scL_tiers.nd rfl (Or.inl rfl))
      (pss_one (ps_if (PW.pt (pw_and (pt_cmpR (oNeD (K := K) hr.units) (pv 2) (pe_lst pa_nil) (nomark _)) (pw_and1 (pt_cmpR op_eq (pe_call D_law_draw.ok (hr.mono (by omega)) rfl D_law_draw.mg D_law_draw.kp D_law_draw.bd .nil pass0 (pa_cons (pv 0) (pa_cons pe_int pa_nil))) pe_int (nomark _))))) (pss_one (ps_asg (pe_op op_cat (pe_ix (ixL (K := K)) (pv 2) (pe_un un_neg pe_int) (fun _ _ => rfl)) (pe_lst (pa_cons (pv 3) pa_nil))) (pg_sub (pv 2) (pe_un un_neg pe_int) set_list))) (pss_one (ps_expr (bm (K := K) PySem.F.plainAttrs_list PySem.F.slot_list_append PySem.F.type_list_append mt_append (pv 2) (pa_cons (pe_lst (pa_cons (pv 3) pa_nil)) pa_nil)))))))
      (pss_one (ps_ret (pv 2))))), ?_⟩
    refine ⟨by show 0 ≤ sizeLine; decide, fun p hp => ?_⟩
    have S1 : Same H (upd H p (.lst [])) := same_new hp
    refine ⟨_, rfl, _, rfl, j, c, a, ss.map V.str, rfl, J.new hp, .inl (SqL.of (S1 _ _ hS)), by rw [List.length_map]; omega, fun q ys H2 hq pm J2 B2 hq2 => ?_⟩
    obtain ⟨zs, rfl, pz⟩ := perm_strs pm
    have lz := pz.length_eq
    have pj : p ≠ j := J.nj hp
    have hp2 := B2 _ _ upd_same pj
    have pq : q ≠ p := fun e => by rw [e, upd_same] at hq; cases hq
    have qj : q ≠ j := (J.new hp).nj hq
    refine ⟨q, rfl, ⟨_, SqL.of hq2⟩, for_list (a := q) (xs := zs.map V.str) (tierInv K H j c a p q zs)
      ⟨none, [], [], rfl, hp2, hq2, .nil, rfl, (fun _ h => by cases h), Nat.le_refl _, J2, (But.of S1).trans B2⟩ ?_ ?_ ?_⟩
    · rintro i σ H3 _ ⟨_, _, _, _, _, h, _⟩
      exact SqL.of h
    · rintro i x σ H3 hi ⟨v, ts, gs, rfl, hp3, hq3, tw, fl, ne, lt, J3, B3⟩
      have il : i < zs.length := by
        have := (List.getElem?_eq_some_iff.mp hi).1
        rw [List.length_map] at this
        exact this
      have hx : x = .str zs[i] := by
        rw [List.getElem?_map, List.getElem?_eq_getElem il] at hi
        exact (Option.some.inj hi).symm
      subst hx
      have pc : p ≠ c := J.nc hp
      have cpg : ∀ g, g ∈ gs → ∀ z, z ∈ g → Cp z := fun g hg z hz => cp z (pz.mem_iff.mp (List.mem_of_mem_take (by rw [← fl]; exact List.mem_flatten.mpr ⟨g, hg, hz⟩)))
      have tk : zs.take (i + 1) = zs.take i ++ [zs[i]] := by rw [List.take_add_one, List.getElem?_eq_getElem il]; rfl
      -- the way that puts a new one behind
      have put : ∀ (D : Ends) (H4 : Hp), D.nx = tierInv K H j c a p q zs (i + 1) → H4 p = some (.lst ts) → H4 q = some (.lst (zs.map V.str)) → Two (fun x g => x ≠ .ref p ∧ LsS H4 x g) ts gs → Jar K H4 j c → But j H H4 →
          tDrop (tBM K "list" rAppend (tVar 2) (tCons (tLst (tCons (tVar 3) tNil)) tNil)) D [some (.ref j), some (.ref a), some (.ref p), some (.str zs[i])] H4 := by
        intro D H4 eD hp4 hq4 tw4 J4 B4
        refine ⟨_, rfl, .inl ⟨rfl, _, SqL.of hp4⟩, _, rfl, by show 1 ≤ sizeLine; decide, fun o ho => ?_⟩
        have So : Same H4 (upd H4 o (.lst [.str zs[i]])) := same_new ho
        have op : o ≠ p := fun e => by rw [e, hp4] at ho; cases ho
        refine ⟨p, ts, _, rfl, rfl, So _ _ hp4, by show ts.length < 16777216; omega, ?_⟩
        rw [eD]
        refine ⟨_, ts ++ [.ref o], gs ++ [[zs[i]]], rfl, upd_same, by rw [upd_ne pq]; exact So _ _ hq4, ?_, by rw [List.flatten_append, fl, tk]; rfl, ?_, by simp; omega, (J4.new ho).upd pj pc, ?_⟩
        · refine Two.snoc ⟨fun e => op (by cases e; rfl), o, rfl, by rw [upd_ne op]; exact upd_same⟩ (tw4.mono ?_)
          rintro x g ⟨n, r, rfl, h⟩
          refine ⟨n, r, rfl, ?_⟩
          rw [upd_ne (fun e => n (by rw [e]))]
          exact So _ _ h
        · intro g hg
          rcases List.mem_append.mp hg with h | h
          · exact ne g h
          · have : g = [zs[i]] := by simpa using h
            subst this
            exact fun e => by cases e
        · intro b u hb n
          rw [upd_ne (ne_of_none hb hp)]
          exact So _ _ (B4 _ _ hb n)
      refine ⟨_, rfl, (by show 0 ≤ sizeLine; decide), fun o ho => ?_⟩
      have So : Same H3 (upd H3 o (.lst [])) := same_new ho
      have twS : ∀ {H5 : Hp}, Same H3 H5 → Two (fun x g => x ≠ .ref p ∧ LsS H5 x g) ts gs := fun e => tw.mono fun x g ⟨n, r, q, h⟩ => ⟨n, r, q, e _ _ h⟩
      refine ⟨.list (gs.map tierD), .list [], .lst (SqL.of (So _ _ hp3)) (tiers_dp ((twS So).mono fun _ _ h => h.2)), .lst (SqL.of upd_same) .nil, tiers_shaped cpg, rfl, _, rfl, ?_⟩
      rcases gs with _ | ⟨g0, gr⟩
      · have e : (!PyData.eqv (.list (([] : List (List Str)).map tierD)) (.list [])) = false := by simp [PyData.eqv, PyData.eqvAll]
        rw [e]
        exact iteF (iteF (put _ _ rfl (So _ _ hp3) (So _ _ hq3) (twS So) (J3.new ho) (B3.trans (But.of So))))
      · have e : (!PyData.eqv (.list ((g0 :: gr).map tierD)) (.list [])) = true := by simp [PyData.eqv, PyData.eqvAll]
        rw [e]
        refine iteT ⟨_, rfl, j, c, _, rfl, J3.new ho, by decide, by decide, fun d H4 d0 d1 J4 B4 => ?_⟩
        have B5 : But j H3 H4 := (But.of So).trans B4
        have tw5 : Two (fun x g => x ≠ .ref p ∧ LsS H4 x g) ts (g0 :: gr) := tw.mono fun x g ⟨n, r, q, h⟩ => ⟨n, r, q, B5.lst J3 h⟩
        have hp4 := B5 _ _ hp3 pj
        have hq4 := B5 _ _ hq3 qj
        refine ⟨rfl, _, rfl, ?_⟩
        refine ite2 (fun _ => ?_) (fun _ => put _ _ rfl hp4 hq4 tw5 J4 (B3.trans B5))
        obtain ⟨ti, tl, gi, gl, rfl, eg, twi, nl, l, rfl, hl⟩ := tw5.last (fun e => by subst e; cases tw)
        rw [eg] at fl ne
        have at1 : atI (ti ++ [V.ref l]) (-1) = some (V.ref l) := at_last _ _
        have ix1 : ixN (ti ++ [V.ref l]).length (-1) = some ti.length := by
          rw [List.length_append]
          exact ix_last
        refine ⟨_, rfl, 1, rfl, p, _, -1, _, rfl, rfl, SqL.of hp4, at1, _, rfl, (by show 1 ≤ sizeLine; decide), fun o2 ho2 => ?_⟩
        have So2 : Same H4 (upd H4 o2 (.lst [.str zs[i]])) := same_new ho2
        have gl9 : gl.length ≤ i := by
          have := congrArg List.length fl
          rw [List.flatten_append, List.length_append, List.length_take] at this
          simp at this
          omega
        refine ⟨l, o2, gl.map V.str, [.str zs[i]], rfl, rfl, So2 _ _ hl, upd_same, by rw [List.length_map]; show gl.length + 1 ≤ 16777216; omega, fun u hu => ?_⟩
        have Su := So2.trans (same_new (o := .lst (gl.map V.str ++ [.str zs[i]])) hu)
        have up : u ≠ p := fun e => by rw [e, So2 _ _ hp4] at hu; cases hu
        refine ⟨_, rfl, 1, rfl, p, _, -1, ti.length, rfl, rfl, Su _ _ hp4, ix1, ?_⟩
        have es : (ti ++ [V.ref l]).set ti.length (.ref u) = ti ++ [.ref u] := by simp
        rw [es]
        refine ⟨_, ti ++ [.ref u], gi ++ [gl ++ [zs[i]]], rfl, upd_same, by rw [upd_ne pq]; exact Su _ _ hq4, ?_, ?_, ?_, ?_, ((J4.new ho2).new hu).upd pj pc, ?_⟩
        · refine Two.snoc ⟨fun e => up (by cases e; rfl), u, rfl, by rw [upd_ne up, upd_same, List.map_append]; rfl⟩ (twi.mono ?_)
          rintro x g ⟨n, r, rfl, h⟩
          refine ⟨n, r, rfl, ?_⟩
          rw [upd_ne (fun e => n (by rw [e]))]
          exact Su _ _ h
        · rw [tk, ← fl]
          simp
        · intro g hg
          rcases List.mem_append.mp hg with h | h
          · exact ne g (List.mem_append_left _ h)
          · have : g = gl ++ [zs[i]] := by simpa using h
            subst this
            exact fun e => by simp at e
        · rw [List.length_append] at lt ⊢
          have : ([V.ref u] : List V).length = 1 := rfl
          omega
        · intro b z hb n
          rw [upd_ne (ne_of_none hb hp)]
          exact Su _ _ (B5 _ _ (B3 _ _ hb n) n)
    · rintro σ H3 ⟨v, ts, gs, rfl, hp3, hq3, tw, fl, ne, lt, J3, B3⟩
      rw [List.length_map, List.take_length] at fl
      exact ⟨_, rfl, k p ts gs H3 hp (tw.mono fun _ _ h => h.2) (by rw [fl]; exact pz) ne J3 B3 hp3⟩
end Bq
set_option Elab.async false
set_option linter.all false
set_option maxRecDepth 100000
set_option maxHeartbeats 4000000
namespace Bq
open PySem L2
variable {P : Program} {w : World} {K : PySem.W.Frag} {mg : Str → Option Value} {base : Heap}
/-! ### _law_ranks -/
def place : List (List Str) → Str → Nat
  | [], _ => 0
  | g :: gs, z => if z ∈ g then 0 else place gs z + 1
theorem place_at : ∀ {gs : List (List Str)} {i : Nat} {g : List Str} {z : Str}, gs.flatten.Nodup → gs[i]? = some g → z ∈ g → place gs z = i
  | [], _, _, _, _, e, _ => by simp at e
  | g0 :: gs, 0, g, z, _, e, hz => by
    simp at e
    subst e
    rw [place, if_pos hz]
  | g0 :: gs, i + 1, g, z, nd, e, hz => by
    rw [List.flatten_cons, List.nodup_append] at nd
    have e' : gs[i]? = some g := by simpa using e
    have hm : z ∈ gs.flatten := List.mem_flatten.mpr ⟨g, List.mem_of_getElem? e', hz⟩
    rw [place, if_neg (fun h => nd.2.2 z h z hm rfl), place_at nd.2.1 e' hz]
def rk (gs : List (List Str)) (z : Str) : Int := (gs.length : Int) - 1 - place gs z
/-- a table of the ranks -/
def Rk (kvs : List (Key × V)) (gs : List (List Str)) : Prop := ∀ z, z ∈ gs.flatten → valV kvs (.inr z) = some (.int (rk gs z))
theorem putK_len (kvs : List (Key × V)) (k : Key) (v : V) : (putK kvs k v).length ≤ kvs.length + 1 := by
  unfold putK
  split <;> simp
def spRanks : Sp := fun vs H Q _ => ∃ (a : Addr) (ts : List V) (gs : List (List Str)), vs = [.ref a] ∧ H a = some (.lst ts) ∧ Two (LsS H) ts gs ∧ gs.flatten.Nodup ∧ gs.flatten.length ≤ 100 ∧ gs.length ≤ 100 ∧
  ∀ p kvs H', H p = none → Rk kvs gs → Same H H' → H' p = some (.dK kvs) → Q (.ref p) H'
abbrev sL_ranks : Stmt := top 32
abbrev nL_ranks : List Str := ["tiers", "made", "k", "goal"]
theorem scL_ranks : FnScope nL_ranks ["tiers"] (defScope sL_ranks) := ⟨rfl, rfl, rfl, by decide +kernel, rfl, by decide +kernel, by decide +kernel⟩
theorem ok_ranks {f : Addr} {fd : FuncData} (F : Fun K "_law_ranks" "_law_ranks" sL_ranks f fd) (T : Bt mg) : FnOk P w K mg base CX0 1 f fd ["tiers"] spRanks := by
  refine F.ok scL_ranks (fun vs H Q E h => ?_) (fun cdv A outer s H vs Q E hr h => ?_)
  · obtain ⟨a, ts, gs, rfl, _⟩ := h
    rfl
  · obtain ⟨a, ts, gs, rfl, hS, tw, nd, l1, l2, k⟩ := h
    have hu : (A.deeper (PyProof.Rows.envOfC (Str.ofString "_law_ranks") (defScope sL_ranks) s.heap.objs.size f cdv)).units + 1 < cLine := by have := hr.units; omega
    refine ⟨_, (pss_cons (ps_set (i := 1) scL_ranks.nd rfl (Or.inl rfl) pe_dnewK)
      (pss_cons (ps_for PassesOwn.never rfl (pi_range1 rfl T.b_range (pa_cons (pe_callB (cLen (K := K)) rfl T.b_len T.o_len (pa_cons (pv 0) pa_nil)) pa_nil)) (pg_name (i := 2) scL_ranks.nd rfl (Or.inl rfl))
      (pss_one (ps_for PassesOwn.never rfl (piL (K := K) (pe_ix (ixL (K := K)) (pv 0) (pv 2) (fun _ _ => rfl))) (pg_name (i := 3) scL_ranks.nd rfl (Or.inl rfl))
      (pss_one (ps_dput hu (pv 1) (pv 3) (pe_op op_sub (pe_op op_sub (pe_callB (cLen (K := K)) rfl T.b_len T.o_len (pa_cons (pv 0) pa_nil)) pe_int) (pv 2)) rfl)))))
      (pss_one (ps_ret (pv 1))))), ?_⟩
    intro p hp
    have S1 : Same H (upd H p (.dK [])) := same_new hp
    have lt := tw.len
    refine ⟨_, rfl, a, _, rfl, .inl (SqL.of (S1 _ _ hS)), _, rfl, ?_, ?_, ?_⟩
    · show -(2 ^ 62) ≤ ((ts.length : Nat) : Int)
      omega
    · show ((ts.length : Nat) : Int) < 2 ^ 62
      omega
    have en : (((ts.length : Nat) : Int)).toNat = ts.length := by omega
    rw [en]
    refine for_range (n := ts.length) (fun i σ H2 => ∃ (v u : Option V) (kvs : List (Key × V)), σ = [some (.ref a), some (.ref p), v, u] ∧ H2 p = some (.dK kvs) ∧ (∀ z, z ∈ (gs.take i).flatten → valV kvs (.inr z) = some (.int (rk gs z))) ∧ kvs.length ≤ (gs.take i).flatten.length ∧ Same H H2)
      ⟨none, none, [], rfl, upd_same, (fun _ h => by cases h), Nat.le_refl _, S1⟩ ?_ ?_
    · rintro i σ H2 hi ⟨v, u, kvs, rfl, hp2, rk2, lk, S2⟩
      obtain ⟨g, hg, q, eq, hq⟩ := tw.get (List.getElem?_eq_getElem hi)
      have ii : (0 : Int) + (i : Int) = i := Int.zero_add _
      refine ⟨_, rfl, _, rfl, a, _, _, _, rfl, rfl, SqL.of (S2 _ _ hS), (by rw [ii]; exact atI_nat (List.getElem?_eq_getElem hi)), q, eq, ⟨_, SqL.of (S2 _ _ hq)⟩, ?_⟩
      have tk : gs.take (i + 1) = gs.take i ++ [g] := by rw [List.take_add_one, hg]; rfl
      have tf : (gs.take (i + 1)).flatten = (gs.take i).flatten ++ g := by rw [tk, List.flatten_append]; simp
      have lb : (gs.take i).flatten.length + g.length ≤ 100 := by
        have e : gs.flatten = (gs.take (i + 1)).flatten ++ (gs.drop (i + 1)).flatten := by rw [← List.flatten_append, List.take_append_drop]
        have := congrArg List.length e
        rw [List.length_append, tf, List.length_append] at this
        omega
      refine for_list (a := q) (xs := g.map V.str) (fun t σ H3 => ∃ (u : Option V) (kvs : List (Key × V)), σ = [some (.ref a), some (.ref p), some (.int (0 + (i : Int))), u] ∧ H3 p = some (.dK kvs) ∧ (∀ z, z ∈ (gs.take i).flatten ++ g.take t → valV kvs (.inr z) = some (.int (rk gs z))) ∧ kvs.length ≤ (gs.take i).flatten.length + t ∧ Same H H3)
        ⟨u, kvs, rfl, hp2, (fun z h => rk2 z (by simpa using h)), lk, S2⟩ ?_ ?_ ?_
      · rintro t σ H3 _ ⟨_, _, _, _, _, _, S3⟩
        exact SqL.of (S3 _ _ hq)
      · rintro t x σ H3 hx ⟨u, kvs, rfl, hp3, rk3, lk3, S3⟩
        have il : t < g.length := by
          have := (List.getElem?_eq_some_iff.mp hx).1
          rw [List.length_map] at this
          exact this
        have ex : x = .str g[t] := by
          rw [List.getElem?_map, List.getElem?_eq_getElem il] at hx
          exact (Option.some.inj hx).symm
        subst ex
        refine ⟨_, rfl, a, _, rfl, .inl (SqL.of (S3 _ _ hS)), _, _, rfl, rfl, _, rfl, _, _, rfl, rfl, _, rfl, _, rfl, p, _, rfl, .inl ⟨kvs, .inr g[t], hp3, rfl, by show kvs.length < 16777216; omega, rfl⟩, ?_⟩
        refine ⟨_, _, rfl, upd_same, ?_, Nat.le_trans (putK_len _ _ _) (by omega), ?_⟩
        · intro z hz
          rw [valV_put]
          by_cases e : (.inr z : Key) = .inr g[t]
          · rw [if_pos e]
            have e' : z = g[t] := Sum.inr.inj e
            subst e'
            have := place_at nd hg (List.getElem_mem il)
            unfold rk
            rw [this, ← lt, ii]
          · rw [if_neg e]
            refine rk3 z ?_
            rw [List.take_add_one, List.getElem?_eq_getElem il, ← List.append_assoc] at hz
            rcases List.mem_append.mp hz with h | h
            · exact h
            · exact absurd (by simpa using h) (fun q : z = g[t] => e (by rw [q]))
        · intro b o hb
          rw [upd_ne (ne_of_none hb hp)]
          exact S3 _ _ hb
      · rintro σ H3 ⟨u, kvs, rfl, hp3, rk3, lk3, S3⟩
        rw [List.length_map] at rk3 lk3
        rw [List.take_length, ← tf] at rk3
        exact ⟨_, u, kvs, rfl, hp3, rk3, by rw [tf, List.length_append]; exact lk3, S3⟩
    · rintro σ H2 ⟨v, u, kvs, rfl, hp2, rk2, lk, S2⟩
      rw [lt, List.take_length] at rk2
      exact ⟨_, rfl, k p kvs H2 hp rk2 S2 hp2⟩
end Bq
set_option Elab.async false
set_option linter.all false
set_option maxRecDepth 100000
set_option maxHeartbeats 4000000
namespace Cr
open PySem PySem.Spec PyProof.Rows L2
/-! ## steps that call nothing: what holds of them by two ways holds together -/
def Calm {α : Type} : Sem α → Prop
  | .pure _ | .raise _ | .unsupported _ | .finish _ => True
  | .rule _ k | .at _ k | .update _ _ _ k => Calm (k ())
  | .load _ _ k => ∀ o, Calm (k o)
  | .fresh k => ∀ t, Calm (k t)
  | .ask k => ∀ w, Calm (k w)
  | _ => False
theorem calm_bind {α β : Type} {f : α → Sem β} (hf : ∀ a, Calm (f a)) (t : Sem α) : Calm t → Calm (t.bind f) := by
  induction t with
  | pure a => intro _; exact hf a
  | raise e => intro _; trivial
  | unsupported _ => intro _; trivial
  | finish _ => intro _; trivial
  | rule _ k ih => intro h; exact ih () h
  | «at» p k ih => intro h; exact ih () h
  | update a p f k ih => intro h; exact ih () h
  | load a p k ih => intro h o; exact ih o (h o)
  | fresh k ih => intro h o; exact ih o (h o)
  | ask k ih => intro h o; exact ih o (h o)
  | _ => intro h; exact h.elim
theorem wp_both {α : Type} (M : Model) (Γ : PySem.Ctx) (t : Sem α) : ∀ (Q Q' : α → Pos → Shared → Prop) (E E' : Value → Pos → Shared → Prop) (p : Pos) (s : Shared), Calm t → Sem.wp M Γ t Q E p s → Sem.wp M Γ t Q' E' p s →
    Sem.wp M Γ t (fun a p' s' => Q a p' s' ∧ Q' a p' s') (fun e p' s' => E e p' s' ∧ E' e p' s') p s := by
  induction t with
  | pure a => intro Q Q' E E' p s _ h h'; exact ⟨h, h'⟩
  | raise e => intro Q Q' E E' p s _ h h'; exact ⟨h, h'⟩
  | unsupported _ => intro Q Q' E E' p s _ h _; exact h
  | finish _ => intro Q Q' E E' p s _ h _; exact h
  | rule _ k ih => intro Q Q' E E' p s c h h'; exact ih () Q Q' E E' p s c h h'
  | «at» p' k ih => intro Q Q' E E' p s c h h'; exact ih () Q Q' E E' p' s c h h'
  | update a _ f k ih => intro Q Q' E E' p s c h h'; exact ⟨h.1, ih () Q Q' E E' p _ c h.2 h'.2⟩
  | load a _ k ih =>
    intro Q Q' E E' p s c h h'
    obtain ⟨o, ho, h⟩ := h
    obtain ⟨o', ho', h'⟩ := h'
    have e : o = o' := Option.some.inj (ho.symm.trans ho')
    subst e
    exact ⟨o, ho, ih o Q Q' E E' p s (c o) h h'⟩
  | fresh k ih => intro Q Q' E E' p s c h h'; exact ih _ Q Q' E E' p _ (c _) h h'
  | ask k ih => intro Q Q' E E' p s c h h'; exact ih _ Q Q' E E' p s (c _) h h'
  | _ => intro Q Q' E E' p s c; exact c.elim
theorem wpAny_both {α : Type} {M : Model} {A : Around} {t : Sem α} {Q Q' : α → Shared → Prop} {E E' : Value → Shared → Prop} {s : Shared} (c : Calm t) (h : wpAny M A t Q E s) (h' : wpAny M A t Q' E' s) :
    wpAny M A t (fun a s' => Q a s' ∧ Q' a s') (fun e s' => E e s' ∧ E' e s') s := fun Γ p hΓ => wp_both M Γ t _ _ _ _ p s c (h Γ p hΓ) (h' Γ p hΓ)
theorem calm_nsSet (a : Addr) (x : Str) (v : Value) : Calm (nsSet a x v) := by
  unfold nsSet
  refine calm_bind (fun _ => ?_) _ ?_
  · refine calm_bind (fun _ => ?_) _ ?_
    · refine calm_bind (fun o => ?_) _ ?_
      · split
        · split
          · exact calm_bind (fun _ => by trivial) _ trivial
          · exact trivial
        · exact trivial
      · exact fun _ => trivial
    · exact fun _ => trivial
  · exact fun _ => trivial

variable {X : Cx} {pins : List (Addr × Obj)} {σ : L2.St} {H : Hp} {s : Shared}
/-- a local is stored, and the very value is there -/
theorem store_raw {M : Model} {A : Around} {E : Value → Shared → Prop} {i : Nat} {x : Str} {v : V} {u : Value} {Q : Unit → Shared → Prop} (I : Inv X pins σ H s) (hN : X.N.Nodup) (hi : X.N[i]? = some x) (hk : X.env.kindOf x = some .local) (hx : Loc X.env.scope x) (r : RelV v u)
    (h : ∀ s', Inv X pins (σ.set i (some v)) H s' → s.toks ≤ s'.toks → (∃ m, s'.heap.Ns X.env.locals m ∧ m x = some u) → Q () s') (hf : X.fn x = true ∨ X.env.scope.names.lookup x = some .local := by first | exact .inl rfl | exact .inr rfl | assumption) : wpAny M A (storeName X.env x u) Q E s := by
  obtain ⟨m, hn, _⟩ := id I.loc
  have hp : (X.env.scope.kind == .class || (X.env.scope.kind == .module && X.env.locals != X.env.globals)) = false := by rw [I.ok.kind]; rfl
  have a : wpAny M A (storeName X.env x u) (fun _ s' => Inv X pins (σ.set i (some v)) H s') E s := store_ok I hN hi hx r (fun _ I' => I') hf
  have b : wpAny M A (storeName X.env x u) (fun _ s' => ∃ m, s'.heap.Ns X.env.locals m ∧ m x = some u) E s := wpAny_storeName_local hk hn (fun h' hn' _ => ⟨_, hn', if_pos rfl⟩) hp
  have c : Calm (storeName X.env x u) := by rw [storeName_local hk hp]; exact calm_nsSet _ _ _
  exact wpAny_mono (PySem.wpAny_toks (wpAny_both c a b)) (fun _ s' q => h s' q.2.1 q.1 q.2.2) fun _ _ z => z.2.1
/-! ## for sign in (four texts): text = text.replace(sign, ' ' + sign + ' ') -/
def one : Str := " "
def wide (y : Str) : Str := (one ++ y) ++ one
def swaps (x : Str) : List Str → Str
  | [] => x
  | y :: ys => swaps (Txt.replace x y (wide y)) ys
theorem swaps_snoc (y : Str) : ∀ (ys : List Str) (x : Str), swaps x (ys ++ [y]) = Txt.replace (swaps x ys) y (wide y)
  | [], _ => rfl
  | _ :: ys, x => by
    rw [List.cons_append]
    show swaps _ (ys ++ [y]) = _
    rw [swaps_snoc y ys]
    rfl
theorem cat_len (x y : Str) : (x ++ y).length = x.length + y.length := by
  show (x.cps ++ y.cps).size = x.cps.size + y.cps.size
  simp
theorem wide_len (y : Str) : (wide y).length = y.length + 2 := by
  unfold wide
  rw [cat_len, cat_len]
  have : one.length = 1 := rfl
  omega
def tSigns (ys : List Str) : TS := fun D σ H => ∃ x v, σ = [some (.str x), v] ∧ (∀ i, i < 4 → 4 * (swaps x (ys.take i)).length + 3 ≤ 16777216) ∧
  ∀ a o v', H a = none → D.nx [some (.str (swaps x ys)), v'] (upd H a (.frz o (.tup (ys.map V.str))))
theorem pst_signs {kt ks : Str} {y0 y1 y2 y3 : Str} {j0 j1 j2 j3 k0 k1 x1 : _} {c0 c1 c2 c3 p1 p2 p3 p4 p5 p6 p7 q0 q1 tp ap cp ap2 pos : Pos} (hp : PassesOwn (model X.prog X.w) X.A X.env X.xe) (hc : X.calm = true) (hN : X.N = [kt, ks]) (hne : kt ≠ ks)
    (hkt : X.env.kindOf kt = some .local) (hks : X.env.kindOf ks = some .local) (lt : Loc X.env.scope kt) (ls : Loc X.env.scope ks) (vt : Vis X.env.scope kt) (ft : X.fn kt = true ∨ X.env.scope.names.lookup kt = some .local) (fs : X.fn ks = true ∨ X.env.scope.names.lookup ks = some .local)
    (hy : ∀ y, y ∈ [y0, y1, y2, y3] → y.length = 1)
    (hdt : (kt == ("__debug__" : Str)) = false) (hct : (kt == ("__classdict__" : Str)) = false) (hds : (ks == ("__debug__" : Str)) = false)
    (hst : starEach [.Name ks p4, .BinOp (.BinOp (.Constant (.str one) k0 q0) .Add (.Name ks p5) p6) .Add (.Constant (.str one) k1 q1) p7] X.env =
      [(false, eval (.Name ks p4) X.env), (false, eval (.BinOp (.BinOp (.Constant (.str one) k0 q0) .Add (.Name ks p5) p6) .Add (.Constant (.str one) k1 q1) p7) X.env)] := by rfl)
    (hbase : attributeBase (.Name kt p3) "replace" X.env (eval (.Name kt p3) X.env) = eval (.Name kt p3) X.env := by rfl) (hline : (ap.endLine == cp.line) = true := by rfl)
    (hs2 : swapsWith (.Call (.Attribute (.Name kt p3) "replace" ap) [.Name ks p4, .BinOp (.BinOp (.Constant (.str one) k0 q0) .Add (.Name ks p5) p6) .Add (.Constant (.str one) k1 q1) p7] [] cp) (some (.Name kt p2)) ap2.line X.env = pure false := by rfl) :
    PST X (.For (.Name ks p1) (.Tuple [.Constant (.str y0) j0 c0, .Constant (.str y1) j1 c1, .Constant (.str y2) j2 c2, .Constant (.str y3) j3 c3] x1 tp)
      [.Assign [.Name kt p2] (.Call (.Attribute (.Name kt p3) "replace" ap) [.Name ks p4, .BinOp (.BinOp (.Constant (.str one) k0 q0) .Add (.Name ks p5) p6) .Add (.Constant (.str one) k1 q1) p7] [] cp) ap2] [] pos) (tSigns [y0, y1, y2, y3]) := by
  intro pins s σ H D h0 I h
  obtain ⟨x, v, rfl, hb, q⟩ := h
  have nd : X.N.Nodup := by
    rw [hN]
    simp [hne]
  refine wpAny_For (wpAny_Tuple_spliced ?_) (by intro _; rfl)
  show wpAny _ _ (spliced ((false, eval (.Constant (.str y0) j0 c0) X.env) :: backTo tp (starEach [.Constant (.str y1) j1 c1, .Constant (.str y2) j2 c2, .Constant (.str y3) j3 c3] X.env))) _ _ s
  refine Calls.spliced_cons (Calls.Constant_str ?_)
  show wpAny _ _ (spliced ((false, eval (.Constant (.str y1) j1 c1) X.env) :: backTo tp (starEach [.Constant (.str y2) j2 c2, .Constant (.str y3) j3 c3] X.env))) _ _ _
  refine Calls.spliced_cons (Calls.Constant_str ?_)
  show wpAny _ _ (spliced ((false, eval (.Constant (.str y2) j2 c2) X.env) :: backTo tp (starEach [.Constant (.str y3) j3 c3] X.env))) _ _ _
  refine Calls.spliced_cons (Calls.Constant_str ?_)
  show wpAny _ _ (spliced ((false, eval (.Constant (.str y3) j3 c3) X.env) :: backTo tp (starEach [] X.env))) _ _ _
  refine Calls.spliced_cons (Calls.Constant_str (Calls.spliced_nil ?_))
  have h4 : (4 : Nat) ≤ sizeLine := by decide
  refine ⟨h4, ?_⟩
  let its : List Value := [.str y0 s.toks, .str y1 (s.toks + 1), .str y2 (s.toks + 1 + 1), .str y3 (s.toks + 1 + 1 + 1)]
  let ob : Obj := { cls := .type "tuple", data := .seq its.toArray }
  let H1 : Hp := upd H s.heap.objs.size (.frz ob (.tup [.str y0, .str y1, .str y2, .str y3]))
  have I1 : Inv X pins [some (.str x), v] H1 { s with heap := s.heap.push ob, toks := s.toks + 1 + 1 + 1 + 1 } :=
    I.laid (t' := s.toks + 1 + 1 + 1 + 1) (fun b u e => Heap.get?_push_of_some _ e) (Nat.le_refl _) ⟨Heap.get?_push_size _ rfl, h4, its, .cons ⟨_, rfl⟩ (.cons ⟨_, rfl⟩ (.cons ⟨_, rfl⟩ (.cons ⟨_, rfl⟩ .nil))), ⟨_, Heap.get?_push_size _ rfl, rfl, _, rfl⟩⟩
  have isT : ∀ {s' : Shared} {pins' : List (Addr × Obj)} {σ' : L2.St}, Inv X pins' σ' H1 s' → s'.heap.IsTuple s.heap.objs.size its.toArray := fun I' => by
    have e : H1 s.heap.objs.size = some (.frz ob (.tup [.str y0, .str y1, .str y2, .str y3])) := upd_same
    exact ⟨ob, (I'.hok _ _ e).1, rfl, _, rfl⟩
  have itk : ∀ i, i < 4 → ∃ y t, its.toArray[i]? = some (.str y t) ∧ [y0, y1, y2, y3][i]? = some y ∧ 1 ≤ t ∧ t < s.toks + 1 + 1 + 1 + 1 := fun i hi => by
    rcases i with _ | _ | _ | _ | i
    · exact ⟨y0, _, rfl, rfl, by omega, by omega⟩
    · exact ⟨y1, _, rfl, rfl, by omega, by omega⟩
    · exact ⟨y2, _, rfl, rfl, by omega, by omega⟩
    · exact ⟨y3, _, rfl, rfl, by omega, by omega⟩
    · omega
  show wpAny _ _ (pyIter (.ref s.heap.objs.size)) _ _ { s with heap := s.heap.push ob, toks := s.toks + 1 + 1 + 1 + 1 }
  have ha : H s.heap.objs.size = none := I.hok.fresh (Nat.le_refl _)
  have q' : ∀ v', D.nx [some (.str (swaps x [y0, y1, y2, y3])), v'] H1 := fun v' => q _ _ v' ha
  clear_value H1
  have le0 : s.toks + 1 + 1 + 1 + 1 ≤ ({ s with heap := s.heap.push ob, toks := s.toks + 1 + 1 + 1 + 1 } : Shared).toks := Nat.le_refl _
  generalize ({ s with heap := s.heap.push ob, toks := s.toks + 1 + 1 + 1 + 1 } : Shared) = s1 at I1 le0 ⊢
  refine wpAny_pyIter_tuple (isT I1) ?_
  have I2 : Inv X pins [some (.str x), v] H1 { s1 with heap := s1.heap.push { cls := .type "tuple_iterator", data := .fields #[.ref s.heap.objs.size, .int 0 0] } } := I1.kept (t' := s1.toks) fun b o e => Heap.get?_push_of_some _ e
  have st2 : ({ s1 with heap := s1.heap.push { cls := .type "tuple_iterator", data := .fields #[.ref s.heap.objs.size, .int 0 0] } } : Shared).heap.IsTupleIter s1.heap.objs.size s.heap.objs.size 0 := ⟨_, Heap.get?_push_size _ rfl, rfl, rfl⟩
  have f2 : FpOk X pins H1 s1.heap.objs.size := I1.fpOk (Nat.le_refl _) (I1.hok.fresh (Nat.le_refl _))
  generalize s1.heap.objs.size = it at st2 f2 ⊢
  have le2 : s.toks + 1 + 1 + 1 + 1 ≤ ({ s1 with heap := s1.heap.push { cls := .type "tuple_iterator", data := .fields #[.ref s.heap.objs.size, .int 0 0] } } : Shared).toks := le0
  generalize ({ s1 with heap := s1.heap.push { cls := .type "tuple_iterator", data := .fields #[.ref s.heap.objs.size, .int 0 0] } } : Shared) = s2 at I2 st2 le2 ⊢
  refine codeAny_forLoop_any (fun n s' => ∃ (i : Nat) (v' : Option V), n = 4 - i ∧ i ≤ 4 ∧ Inv X pins [some (.str (swaps x ([y0, y1, y2, y3].take i))), v'] H1 s' ∧ s'.heap.IsTupleIter it s.heap.objs.size i ∧ s.toks + 1 + 1 + 1 + 1 ≤ s'.toks) ?_ 4 ⟨0, v, rfl, by omega, I2, st2, le2⟩
  rintro n s3 ⟨i, v', rfl, hi, I3, st3, le3⟩
  have f3 := f2
  obtain ⟨f0, f1, fa, fb, fc, fd⟩ := f3
  by_cases hlt : i < 4
  · obtain ⟨y, t, e1, e2, t0, t1⟩ := itk i hlt
    refine wpAny_passesOwn hp (wpAny_pyNext_tuple_item st3 (isT I3) e1 fun h' st' sb => ?_)
    have I4 : Inv X pins [some (.str (swaps x ([y0, y1, y2, y3].take i))), v'] H1 { s3 with heap := h' } := I3.turned (t' := s3.toks) (fun b o hb e => (sb.2 b hb).trans e) f0 f1 fb fc fd
    obtain ⟨o, eo, co, dd⟩ := id st'
    refine wpAny_passesOwn hp (go_of (s := { s3 with heap := h' }) eo co dd (by decide) ?_)
    have le4 : s.toks + 1 + 1 + 1 + 1 ≤ ({ s3 with heap := h' } : Shared).toks := le3
    have st4 : ({ s3 with heap := h' } : Shared).heap.IsTupleIter it s.heap.objs.size (i + 1) := st'
    generalize ({ s3 with heap := h' } : Shared) = s4 at I4 le4 st4 ⊢
    have hob : ∀ b ∈ [it], ∃ o, s4.heap.get? b = some o ∧ ∀ v, o.data ≠ .cell v := fun b hb => by
      have e : b = it := by simpa using hb
      subst e
      obtain ⟨o, e, c, d⟩ := st4
      exact ⟨o, e, fun v z => by rw [d] at z; cases z⟩
    have I5 := I4.pinned (fp := [it]) (fun b hb => by
      have e : b = it := by simpa using hb
      subst e
      exact f2) hob
    refine wpAny_passesOwn hp (wpAny_assign_Name (store_raw (i := 1) (v := .str y) I5 nd (by rw [hN]; rfl) hks ls ⟨t, rfl⟩ (fun s6 I6 le6 ⟨m, hm, hmu⟩ => ?_) fs))
    have le7 : s.toks + 1 + 1 + 1 + 1 ≤ s6.toks := Nat.le_trans le4 le6
    have hyl : y.length = 1 := hy y (List.mem_of_getElem? e2)
    refine wpAny_passesOwn hp (PySem.wpAny_with_toks le7 (wpAny_execs_cons (wpAny_Assign_Name ?_ hs2)))
    refine PySem.Call_method2 hbase hst hline (raw_name (i := 0) (by rw [hN]; rfl) vt I6 rfl (fun u r => ?_) hdt hct)
    obtain ⟨tx, e⟩ := r
    subst e
    refine ⟨"str", _, F.plainAttrs_str, F.slot_str_replace, F.type_str_replace, typeIs_str _ _ _, (fun _ e => nomatch e), Calls.callWith_builtin rfl (Calls.evalArgs_plain (Calls.spliced_cons ?_))⟩
    refine wpAny_Name (wpAny_loadName_local I6.ok.kind hks hm hmu ?_) hds
    refine Calls.spliced_cons (wpAny_BinOp (wpAny_BinOp (Calls.Constant_str ?_)))
    refine wpAny_Name (wpAny_loadName_local (s := { s6 with toks := s6.toks + 1 }) I6.ok.kind hks hm hmu ?_) hds
    refine PySem.P.add_str ?_
    have one1 : (one.length == 0) = false := rfl
    have yy1 : (y.length == 0) = false := by rw [hyl]; rfl
    rw [one1, yy1]
    refine ⟨by rw [cat_len, hyl]; show 1 + 1 ≤ sizeLine; decide, Calls.Constant_str (PySem.P.add_str ?_)⟩
    have w1 : ((one ++ y).length == 0) = false := by rw [cat_len, hyl]; rfl
    rw [w1, one1]
    refine ⟨by rw [cat_len, cat_len, hyl]; show 1 + 1 + 1 ≤ sizeLine; decide, Calls.spliced_nil ?_⟩
    have hw : (y == wide y) = false := by
      cases hq : (y == wide y) with
      | false => rfl
      | true =>
        have := congrArg Str.length (eq_of_beq hq)
        rw [wide_len] at this
        omega
    have bnd := hb i hlt
    refine PySem.SC.replace (by show (t : Nat) ≠ 0; omega) (by show s6.toks + 1 + 1 + 1 ≠ 0; omega) (by show (t : Nat) ≠ s6.toks + 1 + 1 + 1; omega) hw (by show _ + (_ + 1) * (wide y).length ≤ _; rw [wide_len, hyl]; omega) fun t' k => ?_
    refine store_ok (i := 0) (v := .str (Txt.replace (swaps x ([y0, y1, y2, y3].take i)) y (wide y))) (I6.tok k) nd (by rw [hN]; rfl) lt ⟨t', rfl⟩ (fun s7 I7 => ?_) ft
    refine wpAny_execs_nil fun le8 => ⟨4 - (i + 1), by omega, i + 1, some (.str y), rfl, by omega, ?_, ?_, le8⟩
    · have e : swaps x ([y0, y1, y2, y3].take (i + 1)) = Txt.replace (swaps x ([y0, y1, y2, y3].take i)) y (wide y) := by
        rw [List.take_add_one, e2]
        exact swaps_snoc y _ x
      rw [e]
      exact I7.unpinned
    · refine st4.at fun o e => ?_
      exact (I7.pin (it, o) (List.mem_append_right _ (List.mem_append_right _ (mem_pinsAt (by simp) e)))).1
  · have ei : i = 4 := by omega
    subst ei
    refine wpAny_passesOwn hp (wpAny_pyNext_tuple_end (I3.ok.hd hc) st3 (isT I3) rfl fun h' eb => ?_)
    exact wpAny_execs_nil ⟨_, H1, I3.turned (t' := s3.toks) (fun b o hb e => eb b o hb e) f0 f1 fb fc fd, q' _⟩
end Cr
set_option Elab.async false
set_option linter.all false
set_option maxRecDepth 100000
set_option maxHeartbeats 4000000
namespace Cw
open PySem PySem.Spec PyProof.Rows L2 PySem.StrLaws PySem.Builtin PySem.Builtin.Str Cr
/-! ## x.split() on lists of signs -/
abbrev sp (c : Nat) : Bool := Unicode.isSpace c
def wgo : Option (List Nat) → List Nat → List (List Nat)
  | none, [] => []
  | some w, [] => [w]
  | none, c :: r => if sp c = true then wgo none r else wgo (some [c]) r
  | some w, c :: r => if sp c = true then w :: wgo none r else wgo (some (w ++ [c])) r
theorem wn (c : Nat) (r : List Nat) : wgo none (c :: r) = if sp c = true then wgo none r else wgo (some [c]) r := by rw [wgo]
theorem wsm (w : List Nat) (c : Nat) (r : List Nat) : wgo (some w) (c :: r) = if sp c = true then w :: wgo none r else wgo (some (w ++ [c])) r := by rw [wgo]
def cutL (x : Str) (p : Nat × Nat) : List Nat := (strSub x p.1 p.2).cps.toList
theorem ext_snoc (x : Str) {b i : Nat} (hb : b ≤ i) (hi : i < x.length) : cutL x (b, i + 1) = cutL x (b, i) ++ [x.cps.getD i 0] := by
  have h : i < x.cps.size := hi
  unfold cutL strSub
  simp only [Array.toList_extract, List.extract_eq_take_drop]
  have e : i + 1 - b = (i - b) + 1 := by omega
  rw [e, List.take_add_one]
  have q : (x.cps.toList.drop b)[i - b]? = some x.cps[i] := by
    rw [List.getElem?_drop]
    have : b + (i - b) = i := by omega
    rw [this]
    simp [h]
  rw [q, Array.getD_eq_getD_getElem?, Array.getElem?_eq_getElem h]
  rfl
theorem ext_one (x : Str) {i : Nat} (hi : i < x.length) : cutL x (i, i + 1) = [x.cps.getD i 0] := by
  have h : i < x.cps.size := hi
  rw [ext_snoc x (Nat.le_refl i) hi]
  unfold cutL strSub
  simp
theorem drop_cons (x : Str) {i : Nat} (hi : i < x.length) : x.cps.toList.drop i = x.cps.getD i 0 :: x.cps.toList.drop (i + 1) := by
  have h : i < x.cps.toList.length := by rw [Array.length_toList]; exact hi
  rw [List.drop_eq_getElem_cons h]
  have h' : i < x.cps.size := hi
  rw [Array.getD_eq_getD_getElem?, Array.getElem?_eq_getElem h']
  simp
theorem run_list (x : Str) (limit : Nat) (hl : x.length < limit) : ∀ (m cur : Nat) (words : Array (Nat × Nat)) (stt : Option Nat), cur + m = x.length → words.size ≤ cur → (∀ b, stt = some b → b < cur) →
    (swEnd x (forIn (List.range' cur m) ((none, words, stt) : SwSt) (swBody x limit)).run).map (cutL x) = words.toList.map (cutL x) ++ wgo (stt.map fun b => cutL x (b, cur)) (x.cps.toList.drop cur)
  | 0, cur, words, stt, hm, hw, hs => by
    have e : cur = x.length := by omega
    have hd : x.cps.toList.drop cur = [] := by
      rw [e]
      exact List.drop_eq_nil_of_le (by simp [Str.length])
    rw [hd]
    show (swEnd x (none, words, stt)).map (cutL x) = _
    unfold swEnd
    cases stt with
    | none => simp [wgo]
    | some b => simp [wgo, e]
  | m + 1, cur, words, stt, hm, hw, hs => by
    rw [List.range'_succ, List.forIn_cons]
    have hsz : ¬ ((words.size == limit) = true) := by
      rw [beq_iff_eq]; omega
    have hc : cur < x.length := by omega
    rw [drop_cons x hc]
    unfold swBody
    simp only [hsz, if_false]
    cases stt with
    | none =>
      cases hsp : Unicode.isSpace (x.cps.getD cur 0)
      · refine (run_list x limit hl m (cur + 1) words (some cur) (by omega) (by omega) (fun b e => by cases e; omega)).trans ?_
        rw [Option.map_some, Option.map_none, ext_one x hc, wn, if_neg (by rw [sp, hsp]; exact Bool.false_ne_true)]
      · refine (run_list x limit hl m (cur + 1) words none (by omega) (by omega) (fun b e => by cases e)).trans ?_
        rw [Option.map_none, Option.map_none, wn, if_pos (by rw [sp, hsp])]
    | some b =>
      have hb := hs b rfl
      cases hsp : Unicode.isSpace (x.cps.getD cur 0)
      · refine (run_list x limit hl m (cur + 1) words (some b) (by omega) (by omega) (fun b' e => by cases e; omega)).trans ?_
        rw [Option.map_some, Option.map_some, ext_snoc x (Nat.le_of_lt hb) hc, wsm, if_neg (by rw [sp, hsp]; exact Bool.false_ne_true)]
      · refine (run_list x limit hl m (cur + 1) (words.push (b, cur)) none (by omega) (by rw [Array.size_push]; omega) (fun b e => by cases e)).trans ?_
        rw [Option.map_some, Option.map_none, wsm, if_pos (by rw [sp, hsp]), Array.toList_push, List.map_append, List.append_assoc]
        rfl
theorem words_list (x : Str) : (Txt.words x).map (·.cps.toList) = wgo none x.cps.toList := by
  have key : (spaceWords x (x.length + 1)).map (cutL x) = wgo none x.cps.toList := by
    rw [sw_eq]
    have := run_list x (x.length + 1) (Nat.lt_succ_self _) x.length 0 #[] none (by omega) (by simp) (fun b e => by cases e)
    simpa using this
  have e : wordsOf x = (spaceWords x (x.length + 1)).map fun (p : Nat × Nat) => strSub x p.1 p.2 := by
    rfl
  unfold Txt.words
  split
  · rename_i h
    rw [eq_of_beq h] at key
    rw [← key]
    unfold cutL strSub
    simp [Str.length]
    exact (List.take_of_length_le (by simp)).symm
  · rw [e, List.map_map]
    exact key
/-! ## x.replace(sign, ' ' + sign + ' ') on lists of signs -/
def F1 (c : Nat) (l : List Nat) : List Nat := l.flatMap fun d => if d = c then [32, c, 32] else [d]
theorem F1_cons (c d : Nat) (l : List Nat) : F1 c (d :: l) = (if d = c then [32, c, 32] else [d]) ++ F1 c l := rfl
theorem F1_app (c : Nat) (l m : List Nat) : F1 c (l ++ m) = F1 c l ++ F1 c m := List.flatMap_append
theorem replL_F1 (c : Nat) : ∀ l : List Nat, replL [c] [32, c, 32] l = F1 c l
  | [] => replL_nil
  | d :: l => by
    rw [F1_cons, ← replL_F1 c l]
    by_cases h : d = c
    · subst h
      rw [replL_hit (by simp) rfl, if_pos rfl]
      rfl
    · rw [replL_miss (by simpa using h), if_neg h]
      rfl
theorem wide_F1 (x : Str) (c : Nat) : (Txt.replace x ⟨#[c]⟩ (wide ⟨#[c]⟩)).cps.toList = F1 c x.cps.toList := by
  rw [replace_list (by show 1 ≤ 1; decide)]
  exact replL_F1 c _
/-- the four signs { } ( ) -/
def signs : List Str := [⟨#[123]⟩, ⟨#[125]⟩, ⟨#[40]⟩, ⟨#[41]⟩]
def F4 (l : List Nat) : List Nat := F1 41 (F1 40 (F1 125 (F1 123 l)))
theorem swaps_F4 (x : Str) : (swaps x signs).cps.toList = F4 x.cps.toList := by
  show (Txt.replace (Txt.replace (Txt.replace (Txt.replace x _ _) _ _) _ _) _ _).cps.toList = _
  rw [wide_F1, wide_F1, wide_F1, wide_F1]
  rfl
theorem F4_app (l m : List Nat) : F4 (l ++ m) = F4 l ++ F4 m := by
  unfold F4
  rw [F1_app, F1_app, F1_app, F1_app]
def plainS (c : Nat) : Bool := c != 123 && c != 125 && c != 40 && c != 41
theorem F1_id {c : Nat} : ∀ {l : List Nat}, (∀ d, d ∈ l → d ≠ c) → F1 c l = l
  | [], _ => rfl
  | d :: l, h => by
    rw [F1_cons, if_neg (h d List.mem_cons_self), F1_id fun e he => h e (List.mem_cons_of_mem _ he)]
    rfl
theorem F4_id {l : List Nat} (h : ∀ d, d ∈ l → plainS d = true) : F4 l = l := by
  have q : ∀ d, d ∈ l → d ≠ 123 ∧ d ≠ 125 ∧ d ≠ 40 ∧ d ≠ 41 := fun d hd => by
    have := h d hd
    unfold plainS at this
    simp only [Bool.and_eq_true, bne_iff_ne] at this
    exact ⟨this.1.1.1, this.1.1.2, this.1.2, this.2⟩
  unfold F4
  rw [F1_id fun d hd => (q d hd).1, F1_id fun d hd => (q d hd).2.1, F1_id fun d hd => (q d hd).2.2.1, F1_id fun d hd => (q d hd).2.2.2]
theorem F1_len (c : Nat) : ∀ l : List Nat, (F1 c l).length ≤ 3 * l.length
  | [] => Nat.le_refl 0
  | d :: l => by
    rw [F1_cons, List.length_append, List.length_cons]
    have := F1_len c l
    split
    · show 3 + _ ≤ _
      omega
    · show 1 + _ ≤ _
      omega
/-! ## pages: blanks between words -/
def words4 (x : Str) : List Str := Txt.words (swaps x signs)
theorem words4_list (x : Str) : (words4 x).map (·.cps.toList) = wgo none (F4 x.cps.toList) := by
  unfold words4
  rw [words_list, swaps_F4]
def Blank (l : List Nat) : Prop := ∀ c, c ∈ l → c = 32
theorem sp32 : sp 32 = true := by decide +kernel
theorem wgo_blank : ∀ {b : List Nat}, Blank b → ∀ r, wgo none (b ++ r) = wgo none r
  | [], _, r => rfl
  | c :: b, h, r => by
    have hc := h c List.mem_cons_self
    subst hc
    rw [List.cons_append, wn, if_pos sp32]
    exact wgo_blank (fun d hd => h d (List.mem_cons_of_mem _ hd)) r
theorem wgo_some : ∀ {w : List Nat} (_ : ∀ c, c ∈ w → sp c = false) (a r : List Nat), wgo (some a) (w ++ r) = wgo (some (a ++ w)) r
  | [], _, a, r => by rw [List.append_nil]; rfl
  | c :: w, h, a, r => by
    rw [List.cons_append, wsm, if_neg (by rw [h c List.mem_cons_self]; exact Bool.false_ne_true), wgo_some (fun d hd => h d (List.mem_cons_of_mem _ hd)), List.append_assoc]
    rfl
theorem wgo_word {w : List Nat} (n : w ≠ []) (h : ∀ c, c ∈ w → sp c = false) (r : List Nat) : wgo none (w ++ 32 :: r) = w :: wgo none r := by
  cases w with
  | nil => exact absurd rfl n
  | cons c w =>
    rw [List.cons_append, wn, if_neg (by rw [h c List.mem_cons_self]; exact Bool.false_ne_true), wgo_some (fun d hd => h d (List.mem_cons_of_mem _ hd)), wsm, if_pos sp32]
    rfl
/-- blanks behind change nothing -/
theorem wgo_tail {b : List Nat} (hb : Blank b) : ∀ (l : List Nat) (o : Option (List Nat)), wgo o (l ++ b) = wgo o l
  | [], none => by
    rw [List.nil_append]
    have := wgo_blank hb []
    rw [List.append_nil] at this
    exact this
  | [], some w => by
    rw [List.nil_append]
    cases b with
    | nil => rfl
    | cons c b =>
      have hc := hb c List.mem_cons_self
      subst hc
      rw [wsm, if_pos sp32]
      have := wgo_blank (fun d hd => hb d (List.mem_cons_of_mem _ hd)) []
      rw [List.append_nil] at this
      rw [this]
      rfl
  | c :: l, none => by
    rw [List.cons_append, wn, wn, wgo_tail hb l, wgo_tail hb l]
  | c :: l, some w => by
    rw [List.cons_append, wsm, wsm, wgo_tail hb l, wgo_tail hb l]
/-- a text whose words are ws, whatever comes behind it -/
def Closed (l : List Nat) (ws : List (List Nat)) : Prop := ∀ r, wgo none (l ++ r) = ws ++ wgo none r
theorem Closed.nil {b : List Nat} (h : Blank b) : Closed b [] := fun r => wgo_blank h r
/-- a word: no blank within, a sign of the four only alone -/
structure Wk (w : List Nat) : Prop where
  ne : w ≠ []
  ns : ∀ c, c ∈ w → sp c = false
  cut : ∃ p q, Blank p ∧ Blank q ∧ F4 w = p ++ w ++ q
theorem Closed.word {l w b : List Nat} {ws : List (List Nat)} (h : Closed l ws) (k : Wk w) (hb : Blank b) (nb : b ≠ []) : Closed (l ++ (F4 w ++ b)) (ws ++ [w]) := by
  intro r
  obtain ⟨p, q, hp, hq, e⟩ := k.cut
  rw [e, List.append_assoc, h]
  have hqb : Blank (q ++ b) := fun c hc => (List.mem_append.mp hc).elim (hq c) (hb c)
  have nqb : q ++ b ≠ [] := by simp [nb]
  have e2 : p ++ w ++ q ++ b ++ r = p ++ (w ++ ((q ++ b) ++ r)) := by simp
  rw [e2, wgo_blank hp]
  generalize hz : q ++ b = z at hqb nqb
  cases z with
  | nil => exact absurd rfl nqb
  | cons c z =>
    have hc := hqb c List.mem_cons_self
    subst hc
    rw [List.cons_append, wgo_word k.ne k.ns, wgo_blank fun d hd => hqb d (List.mem_cons_of_mem _ hd)]
    simp
end Cw
set_option Elab.async false
set_option linter.all false
set_option maxRecDepth 100000
set_option maxHeartbeats 4000000
namespace Bq
open PySem L2 Cw PySem.Builtin PySem.Builtin.Str
variable {P : Program} {w : World} {K : PySem.W.Frag} {mg : Str → Option Value} {base : Heap}
/-! ### words_of -/
def spOf : Sp := fun vs H Q _ => ∃ (x : Str), vs = [.str x] ∧ x.length ≤ 40000 ∧ ∀ p H', H p = none → Same H H' → H' p = some (.lst ((words4 x).map V.str)) → Q (.ref p) H'
theorem PSsT.nox {X : Cx} {st : List Stmt} {t : TS} (h : PSsT X.nox st t) : PSsT X st t := fun pins s σ H D h0 I hw =>
  PySem.wpAny_mono (h pins s σ H D h0 (I.wish _) hw) (fun _ _ q => q.unwish) fun _ _ z => False.elim z
theorem Fun.okT {x qual : Str} {st : Stmt} {f : Addr} {fd : FuncData} {N ps : List Str} {k : Nat} {sp : Sp} (F : Fun K x qual st f fd) (S : FnScope N ps (defScope st)) (hnc : ∀ y ∈ (defScope st).names, y.2 ≠ .cell) (hps : 1 ≤ ps.length) (len : ∀ vs H Q E, sp vs H Q E → vs.length = ps.length)
    (hbody : ∀ (cdv : Value) (A : Around) (outer : List Env) (s : Shared) (H : Hp) (vs : List V) (Q : VK) (E : XK), Room k (A.deeper (PyProof.Rows.envOfC qual (defScope st) s.heap.objs.size f cdv)) → sp vs H Q E →
      ∃ t, PSsT (cxOf CX0 P w K mg base N qual (defScope st) f cdv A outer s H E).nox (defBody st) t ∧ t { nx := fun _ H' => Q .non H', rt := Q } (L2.start N vs) H) : FnOk P w K mg base CX0 (k + 1) f fd ps sp := by
  obtain ⟨oc, od, kV, doc, pm, an, cdv, ct, osl, rfl, lk, hcd⟩ := F.ex
  refine fn_ofT lk hcd S hnc hps len fun A outer s H vs Q E hr hsp => ?_
  obtain ⟨t, h, q⟩ := hbody cdv A outer s H vs Q E hr hsp
  exact ⟨t, PSsT.nox h, q⟩
abbrev swords_of : Stmt := top 15
abbrev nwords_of : List Str := ["text", "sign"]
theorem scwords_of : FnScope nwords_of ["text"] (defScope swords_of) := ⟨rfl, rfl, rfl, by decide +kernel, rfl, by decide +kernel, by decide +kernel⟩
theorem F4_len (l : List Nat) : (F4 l).length ≤ 81 * l.length := by
  unfold F4
  have a := F1_len 41 (F1 40 (F1 125 (F1 123 l)))
  have b := F1_len 40 (F1 125 (F1 123 l))
  have c := F1_len 125 (F1 123 l)
  have d := F1_len 123 l
  omega
theorem cps_len (x : Str) : x.cps.toList.length = x.length := by simp [Str.length]
theorem F1_shorter (c : Nat) (l : List Nat) : l.length ≤ (F1 c l).length := by
  induction l with
  | nil => exact Nat.le_refl _
  | cons d l ih =>
    rw [F1_cons, List.length_append, List.length_cons]
    split
    · show _ ≤ 3 + _
      omega
    · show _ ≤ 1 + _
      omega
theorem swaps_bound (x : Str) (h : x.length ≤ 40000) : ∀ i, i < 4 → 4 * (Cr.swaps x (signs.take i)).length + 3 ≤ 16777216 := by
  intro i hi
  have d := F1_len 123 x.cps.toList
  have c := F1_len 125 (F1 123 x.cps.toList)
  have b := F1_len 40 (F1 125 (F1 123 x.cps.toList))
  rw [cps_len] at d
  rcases i with _ | _ | _ | _ | i
  · show 4 * x.length + 3 ≤ _
    omega
  · rw [← cps_len]
    show 4 * (Txt.replace x _ _).cps.toList.length + 3 ≤ _
    rw [wide_F1]
    omega
  · rw [← cps_len]
    show 4 * (Txt.replace (Txt.replace x _ _) _ _).cps.toList.length + 3 ≤ _
    rw [wide_F1, wide_F1]
    omega
  · rw [← cps_len]
    show 4 * (Txt.replace (Txt.replace (Txt.replace x _ _) _ _) _ _).cps.toList.length + 3 ≤ _
    rw [wide_F1, wide_F1, wide_F1]
    omega
  · omega
theorem ok_of {f : Addr} {fd : FuncData} (F : Fun K "words_of" "words_of" swords_of f fd) : FnOk P w K mg base CX0 1 f fd ["text"] spOf := by
  refine Fun.okT F scwords_of (by decide +kernel) (by decide) (fun vs H Q E h => ?_) (fun cdv A outer s H vs Q E hr h => ?_)
  · obtain ⟨x, rfl, _⟩ := h
    rfl
  · obtain ⟨x, rfl, hx, k⟩ := h
    refine ⟨_, psst_cons (Cr.pst_signs (kt := "text") (ks := "sign") (y0 := ⟨#[123]⟩) (y1 := ⟨#[125]⟩) (y2 := ⟨#[40]⟩) (y3 := ⟨#[41]⟩) PassesOwn.never rfl rfl (by decide) rfl rfl (Or.inl rfl) (Or.inl rfl) (Or.inl rfl) (Or.inl rfl) (Or.inl rfl) (by decide) (by decide) (by decide) (by decide)) (PSsT.of (pss_one (ps_ret (pe_words (pv 0))))), ?_⟩
    refine ⟨x, none, rfl, swaps_bound x hx, fun a o v' ha => ?_⟩
    refine ⟨_, rfl, ⟨_, rfl⟩, _, rfl, rfl, ?_, fun p hp => ?_⟩
    · have := F4_len x.cps.toList
      rw [← swaps_F4, cps_len, cps_len] at this
      show (Cr.swaps x signs).length + 2 ≤ 16777216
      omega
    · have Sa : Same H (upd H a (.frz o (.tup (signs.map V.str)))) := same_new ha
      exact k p _ (nn Sa hp) (Sa.trans (same_new hp)) upd_same
/-! ### _law_spread -/
def spSpread (K : PySem.W.Frag) : Sp := fun vs H Q _ => ∃ (j c a : Addr) (ws : List Str), vs = [.ref j, .ref a] ∧ Jar K H j c ∧ H a = some (.lst (ws.map V.str)) ∧ ws.length ≤ 9 ∧ (∀ z, z ∈ ws → Wk z.cps.toList ∧ z.length ≤ 3000) ∧
  ∀ (z : Str) H', words4 z = ws → z.length ≤ 40000 → Jar K H' j c → But j H H' → Q (.str z) H'
abbrev sL_spread : Stmt := top 33
abbrev nL_spread : List Str := ["jar", "words", "made", "word"]
theorem scL_spread : FnScope nL_spread ["jar", "words"] (defScope sL_spread) := ⟨rfl, rfl, rfl, by decide +kernel, rfl, by decide +kernel, by decide +kernel⟩
theorem rstrip_blank (x : Str) : ∃ b, Blank b ∧ x.cps.toList = (Txt.rstripChars x " ").cps.toList ++ b := by
  unfold Txt.rstripChars
  rw [PyProof.Rows.stripBy_eq]
  obtain ⟨_, h2, h3, _⟩ := PyProof.Rows.hi_facts (((" " : Str).cps).contains) x 0 (Nat.zero_le _)
  have e0 : stripLo ((" " : Str).cps).contains false x = 0 := rfl
  rw [e0]
  generalize stripHi ((" " : Str).cps).contains true x 0 = hi at h2 h3
  refine ⟨x.cps.toList.drop hi, fun c hc => ?_, ?_⟩
  · obtain ⟨k, hk, e⟩ := List.mem_iff_getElem.mp hc
    rw [List.length_drop, cps_len] at hk
    rw [List.getElem_drop] at e
    have q := h3 (hi + k) (by omega) (by omega)
    have hb : hi + k < x.cps.size := by have : x.cps.size = x.length := rfl; omega
    rw [Array.getD_eq_getD_getElem?, Array.getElem?_eq_getElem hb] at q
    have e2 : x.cps[hi + k] = c := by rw [← e]; simp
    rw [Option.getD_some, e2] at q
    have e3 : ((" " : Str).cps) = #[32] := rfl
    rw [e3] at q
    simpa using q
  · unfold Builtin.Str.strSub
    simp
theorem words4_ext {z : Str} {ws : List Str} (h : wgo none (F4 z.cps.toList) = ws.map (·.cps.toList)) : words4 z = ws := by
  have q := words4_list z
  rw [h] at q
  have inj : ∀ (a b : List Str), a.map (·.cps.toList) = b.map (·.cps.toList) → a = b := fun a => by
    induction a with
    | nil => intro b h; cases b with
      | nil => rfl
      | cons => cases h
    | cons x a ih => intro b h; cases b with
      | nil => cases h
      | cons y b =>
        rw [List.map_cons, List.map_cons] at h
        injection h with h1 h2
        rw [str_ext h1, ih b h2]
  exact inj _ _ q
theorem F4_blank {b : List Nat} (h : Blank b) : F4 b = b := F4_id fun d hd => by rw [h d hd]; rfl
theorem ok_spread {f : Addr} {fd : FuncData} (F : Fun K "_law_spread" "_law_spread" sL_spread f fd) (T : Bt mg) (D_law_draw : Dn P w K mg base 1 "_law_draw" ["jar", "many"] (spDraw K)) (D_law_pick : Dn P w K mg base 2 "_law_pick" ["jar", "menu"] (spPick K)) : FnOk P w K mg base CX0 3 f fd ["jar", "words"] (spSpread K) := by
  refine F.ok scL_spread (fun vs H Q E h => ?_) (fun cdv A outer s H vs Q E hr h => ?_)
  · obtain ⟨j, c, a, ws, rfl, _⟩ := h
    rfl
  · obtain ⟨j, c, a, ws, rfl, J, hS, lw, hw, k⟩ := h
    refine ⟨_, (pss_cons (ps_set (i := 2) scL_spread.nd rfl (Or.inl rfl) (pe_call D_law_pick.ok (hr.mono (by omega)) rfl D_law_pick.mg D_law_pick.kp D_law_pick.bd .nil pass0 (pa_cons (pv 0) (pa_cons (pe_lst (pa_cons pe_str (pa_cons pe_str (pa_cons pe_str (pa_cons pe_str pa_nil))))) pa_nil))))
      (pss_cons (ps_for PassesOwn.never rfl (piL (K := K) (pv 1)) (pg_name (i := 3) scL_spread.nd rfl (Or.inl rfl))
      (pss_one (ps_set (i := 2) scL_spread.nd rfl (Or.inl rfl) (pe_op op_add_str (pe_op op_add_str (pv 2) (pv 3)) (pe_call D_law_pick.ok (hr.mono (by omega)) rfl D_law_pick.mg D_law_pick.kp D_law_pick.bd .nil pass0 (pa_cons (pv 0) (pa_cons (pe_lst (pa_cons pe_str (pa_cons pe_str (pa_cons pe_str (pa_cons pe_str pa_nil))))) pa_nil)))))))
      (pss_one (ps_ret (pe_ifExp (pt_cmpR op_eq (pe_call D_law_draw.ok (hr.mono (by omega)) rfl D_law_draw.mg D_law_draw.kp D_law_draw.bd .nil pass0 (pa_cons (pv 0) (pa_cons pe_int pa_nil))) pe_int (nomark _)) (pv 2) (bm (K := K) PySem.F.plainAttrs_str PySem.F.slot_str_rstrip PySem.F.type_str_rstrip mt_rstripChars (pv 2) (pa_cons pe_str pa_nil))))))), ?_⟩
    have sb : ∀ v : V, v ∈ ([.str "", .str "", .str " ", .str "   "] : List V) → ∃ b : Str, v = .str b ∧ Blank b.cps.toList ∧ b.length ≤ 4 := by
      intro v hv
      simp only [List.mem_cons, List.not_mem_nil, or_false] at hv
      rcases hv with rfl | rfl | rfl | rfl <;> exact ⟨_, rfl, by unfold Blank; decide +kernel, by decide +kernel⟩
    have sb2 : ∀ v : V, v ∈ ([.str " ", .str " ", .str "  ", .str "    "] : List V) → ∃ b : Str, v = .str b ∧ Blank b.cps.toList ∧ b.length ≤ 4 ∧ b.cps.toList ≠ [] := by
      intro v hv
      simp only [List.mem_cons, List.not_mem_nil, or_false] at hv
      rcases hv with rfl | rfl | rfl | rfl <;> exact ⟨_, rfl, by unfold Blank; decide +kernel, by decide +kernel, by decide +kernel⟩
    refine ⟨_, rfl, (by show 4 ≤ sizeLine; decide), fun p hp => ?_⟩
    refine ⟨j, c, p, _, rfl, J.new hp, .inl (SqL.of upd_same), .inr (J.nj hp), by decide, by decide, fun i v H1 hv J1 B1 => ?_⟩
    obtain ⟨b, rfl, bb, lb⟩ := sb v (List.mem_of_getElem? hv)
    have B1' : But j H H1 := (But.of (same_new hp)).trans B1
    have hS1 := B1'.lst J hS
    refine ⟨_, rfl, a, rfl, ⟨_, SqL.of hS1⟩, for_list (a := a) (xs := ws.map V.str) (fun i σ H3 => ∃ (v : Option V) (m : Str), σ = [some (.ref j), some (.ref a), some (.str m), v] ∧ Closed (F4 m.cps.toList) ((ws.take i).map (·.cps.toList)) ∧ m.length ≤ 4 + i * 3004 ∧ Jar K H3 j c ∧ But j H H3)
      ⟨none, b, rfl, by rw [F4_blank bb]; exact Closed.nil bb, by omega, J1, B1'⟩ ?_ ?_ ?_⟩
    · rintro i σ H3 _ ⟨_, _, _, _, _, _, B3⟩
      exact SqL.of (B3.lst J hS)
    · rintro i x σ H3 hi ⟨v, m, rfl, cl, lm, J3, B3⟩
      have il : i < ws.length := by
        have := (List.getElem?_eq_some_iff.mp hi).1
        rw [List.length_map] at this
        exact this
      have hx : x = .str ws[i] := by
        rw [List.getElem?_map, List.getElem?_eq_getElem il] at hi
        exact (Option.some.inj hi).symm
      subst hx
      obtain ⟨wk, lz⟩ := hw _ (List.getElem_mem il)
      have li : i * 3004 ≤ 8 * 3004 := Nat.mul_le_mul_right _ (by omega)
      refine ⟨_, rfl, _, rfl, m, ws[i], rfl, rfl, by show m.length + ws[i].length ≤ 16777216; omega, _, rfl, (by show 4 ≤ sizeLine; decide), fun p hp => ?_⟩
      refine ⟨j, c, p, _, rfl, J3.new hp, .inl (SqL.of upd_same), .inr (J3.nj hp), by decide, by decide, fun i' v H4 hv J4 B4 => ?_⟩
      obtain ⟨b, rfl, bb, lb, nb⟩ := sb2 v (List.mem_of_getElem? hv)
      refine ⟨m ++ ws[i], b, rfl, rfl, by rw [app_len]; show m.length + ws[i].length + b.length ≤ 16777216; omega, ?_⟩
      refine ⟨_, m ++ ws[i] ++ b, rfl, ?_, by rw [app_len, app_len, Nat.add_mul]; omega, J4, B3.trans ((But.of (same_new hp)).trans B4)⟩
      rw [app_cps, app_cps, F4_app, F4_app, F4_blank bb, List.append_assoc]
      have tk : (ws.take (i + 1)).map (fun x : Str => x.cps.toList) = (ws.take i).map (fun x : Str => x.cps.toList) ++ [ws[i].cps.toList] := by
        rw [List.take_add_one, List.getElem?_eq_getElem il, List.map_append]
        rfl
      rw [tk]
      exact cl.word wk bb nb
    · rintro σ H3 ⟨v, m, rfl, cl, lm, J3, B3⟩
      rw [List.length_map] at lm cl
      rw [List.take_length] at cl
      have lm' : m.length ≤ 40000 := by
        have : ws.length * 3004 ≤ 9 * 3004 := Nat.mul_le_mul_right _ lw
        omega
      have cm := cl []
      rw [List.append_nil] at cm
      have cm' : wgo none (F4 m.cps.toList) = ws.map (fun x : Str => x.cps.toList) := by rw [cm]; show _ ++ [] = _; rw [List.append_nil]
      refine ⟨_, rfl, j, c, _, rfl, J3, by decide, by decide, fun d H4 d0 d1 J4 B4 => ⟨rfl, _, rfl, ?_⟩⟩
      refine ite2 (fun _ => ?_) (fun _ => ?_)
      · exact ⟨_, rfl, k m H4 (words4_ext cm') lm' J4 (B3.trans B4)⟩
      · obtain ⟨b, bb, eb⟩ := rstrip_blank m
        refine ⟨_, rfl, rfl, m, " ", rfl, rfl, by show m.length ≤ 16777216; omega, ?_⟩
        refine k _ H4 (words4_ext ?_) (Nat.le_trans (PyProof.Rows.len_rstripChars _ _) lm') J4 (B3.trans B4)
        rw [eb, F4_app, F4_blank bb, wgo_tail bb] at cm'
        exact cm'
end Bq
set_option Elab.async false
set_option linter.all false
set_option maxRecDepth 100000
set_option maxHeartbeats 4000000
namespace Bq
open PySem L2 Cw
variable {P : Program} {w : World} {K : PySem.W.Frag} {mg : Str → Option Value} {base : Heap}
/-- a tuple of the module that stays -/
structure Cn (K : PySem.W.Frag) (mg : Str → Option Value) (x : Str) (xs : List V) where
  a : Addr
  g : mg x = some (.ref a)
  q : ∀ H, SqT K H a xs
/-! ### _law_way_words -/
def part : V → Str
  | .str z => z
  | .int n => toString n
  | _ => ⟨#[]⟩
def isPart (x : V) : Prop := (∃ z, x = .str z) ∨ ∃ n : Int, x = .int n ∧ 0 ≤ n ∧ n ≤ 99
theorem cStrP {X : Cx} : CallR X (.type "str") (fun xs H Q => ∃ x, xs = [x] ∧ isPart x ∧ Q (.str (part x)) H) := by
  intro pins s σ H xs us Q I r h
  obtain ⟨x, rfl, hp, q⟩ := h
  rcases hp with ⟨z, rfl⟩ | ⟨n, rfl, n0, n1⟩
  · obtain ⟨u, rfl, t, rfl⟩ := vals1 r
    exact PySem.P.str_of_str ⟨.str z, H, I, ⟨t, rfl⟩, q⟩
  · refine call_str_int pins s σ H _ us Q I r ⟨n, rfl, ?_, q⟩
    have : n.natAbs < 128 := by omega
    refine Nat.lt_of_le_of_lt ?_ (by decide : 6 < 1920)
    by_cases h0 : n.natAbs = 0
    · rw [h0]; decide
    · have := (Nat.log2_lt h0 (k := 7)).mpr (by omega)
      omega
def spWay (K : PySem.W.Frag) : Sp := fun vs H Q _ => ∃ (a : Addr) (xs : List V), vs = [.ref a] ∧ SqT K H a xs ∧ xs.length ≤ 9 ∧ (∀ x, x ∈ xs → isPart x) ∧
  ∀ p H', H p = none → Same H H' → H' p = some (.lst ((xs.map part).map V.str)) → Q (.ref p) H'
abbrev sL_way_words : Stmt := top 34
abbrev nL_way_words : List Str := ["way", "part"]
theorem scL_way_words : FnScope nL_way_words ["way"] (defScope sL_way_words) := ⟨rfl, rfl, rfl, by decide +kernel, rfl, by decide +kernel, by decide +kernel⟩
theorem ok_way {f : Addr} {fd : FuncData} (F : Fun K "_law_way_words" "_law_way_words" sL_way_words f fd) (T : Bt mg) : FnOk P w K mg base CX0 1 f fd ["way"] (spWay K) := by
  refine F.ok scL_way_words (fun vs H Q E h => ?_) (fun cdv A outer s H vs Q E hr h => ?_)
  · obtain ⟨a, xs, rfl, _⟩ := h
    rfl
  · obtain ⟨a, xs, rfl, hS, l9, hp, k⟩ := h
    refine ⟨_, (pss_one (ps_ret (pe_lc (own := [("part", 1)]) (g := gName 1) (tt := tYes) rfl scL_way_words.nd (piT (K := K) (pv 0)) (blkOk_by (own := [("part", 1)]) (N := nL_way_words) (sc := defScope sL_way_words) (by decide +kernel)) (fun _ _ _ _ _ => pg_name (i := 1) scL_way_words.nd rfl (Or.inl rfl)) (fun _ _ _ _ _ => pts_nil) (fun _ _ _ _ _ => (pe_callTy cStrP rfl T.b_str T.o_str (pa_cons (pv 1) pa_nil)))))), ?_⟩
    refine ⟨_, rfl, a, rfl, ⟨_, hS⟩, fun D hD => ?_⟩
    refine lc_tup (a := a) (xs := xs) (fun i H2 => H2 D = some (.lst (((xs.take i).map part).map V.str)) ∧ Same H H2) ⟨upd_same, same_new hD⟩ ?_ ?_ ?_
    · rintro i H2 hi ⟨_, S2⟩
      exact Same.sqT S2 hS
    · rintro i x H2 hi ⟨hD2, S2⟩
      have il : i < xs.length := (List.getElem?_eq_some_iff.mp hi).1
      refine ⟨rfl, _, rfl, x, rfl, hp x (List.mem_of_getElem? hi), _, hD2, ?_, ?_, ?_⟩
      · rw [List.length_map, List.length_map, List.length_take]
        show min i xs.length < 16777216
        omega
      · rw [upd_same, List.take_add_one, hi]
        simp
      · exact fun b u hb => by
          rw [upd_ne (ne_of_none hb hD)]
          exact S2 _ _ hb
    · rintro H2 ⟨hD2, S2⟩
      rw [List.take_length] at hD2
      exact k D H2 hD S2 hD2
/-! ### manner_of_words -/
def plainW : List Str := ["each", "some", "most", "none"]
def stepW : List Str := ["1", "2", "3", "4", "5", "6", "7", "8", "9"]
def stepI (b : Str) : Int := (PySem.intText? b).getD 0
def mow (ws ms : List Str) : Option (List PyData) :=
  match ws with
  | [z] => if z ∈ plainW then some [.str z] else none
  | [z, y] => if z = "head" ∧ y ∈ ms then some [.str "head", .str y] else if z = "far" ∧ y ∈ stepW then some [.str "far", .int (stepI y)] else none
  | _ => none
def IsMow (K : PySem.W.Frag) (H : Hp) (v : V) : Option (List PyData) → Prop
  | none => v = .non
  | some ds => Dp K H v (.tuple ds)
def spManner (K : PySem.W.Frag) : Sp := fun vs H Q _ => ∃ (a : Addr) (ws : List Str) (b : Addr) (ms : List Str), vs = [.ref a, .ref b] ∧ SqL K H a (ws.map V.str) ∧ Sq K H b (ms.map V.str) ∧
  ∀ v H', Same H H' → IsMow K H' v (mow ws ms) → Q v H'
abbrev smanner_of_words : Stmt := top 8
abbrev nmanner_of_words : List Str := ["words", "members"]
theorem scmanner_of_words : FnScope nmanner_of_words ["words", "members"] (defScope smanner_of_words) := ⟨rfl, rfl, rfl, by decide +kernel, rfl, by decide +kernel, by decide +kernel⟩
theorem ok_manner {f : Addr} {fd : FuncData} (F : Fun K "manner_of_words" "manner_of_words" smanner_of_words f fd) (T : Bt mg) (CPLAIN : Cn K mg "PLAIN" (plainW.map V.str)) (CFAR_STEPS : Cn K mg "FAR_STEPS" (stepW.map V.str)) : FnOk P w K mg base CX0 1 f fd ["words", "members"] (spManner K) := by
  refine F.ok scmanner_of_words (fun vs H Q E h => ?_) (fun cdv A outer s H vs Q E hr h => ?_)
  · obtain ⟨a, ws, b, ms, rfl, _⟩ := h
    rfl
  · obtain ⟨a, ws, b, ms, rfl, hS, hM, k⟩ := h
    refine ⟨_, (pss_cons (ps_if (PW.pt (pw_and (pt_cmpR op_eq (pe_callB (cLen (K := K)) rfl T.b_len T.o_len (pa_cons (pv 0) pa_nil)) pe_int (nomark _)) (pw_and1 (pt_cmpR (oIn (K := K)) (pe_ix (ixL (K := K)) (pv 0) pe_int (fun _ _ => rfl)) (pe_glob (v := .ref CPLAIN.a) rfl CPLAIN.g rfl) rfl)))) (pss_one (ps_ret (pe_tup (pa_cons (pe_ix (ixL (K := K)) (pv 0) pe_int (fun _ _ => rfl)) pa_nil)))) pss_nil)
      (pss_cons (ps_if (pt_cmpR op_ne (pe_callB (cLen (K := K)) rfl T.b_len T.o_len (pa_cons (pv 0) pa_nil)) pe_int (nomark _)) (pss_one (ps_ret pe_non)) pss_nil)
      (pss_cons (ps_if (PW.pt (pw_and (pt_cmpR op_eq (pe_ix (ixL (K := K)) (pv 0) pe_int (fun _ _ => rfl)) pe_str (nomark _)) (pw_and1 (pt_cmpR (oIn (K := K)) (pe_ix (ixL (K := K)) (pv 0) pe_int (fun _ _ => rfl)) (pv 1) rfl)))) (pss_one (ps_ret (pe_tup (pa_cons pe_str (pa_cons (pe_ix (ixL (K := K)) (pv 0) pe_int (fun _ _ => rfl)) pa_nil))))) pss_nil)
      (pss_cons (ps_if (PW.pt (pw_and (pt_cmpR op_eq (pe_ix (ixL (K := K)) (pv 0) pe_int (fun _ _ => rfl)) pe_str (nomark _)) (pw_and1 (pt_cmpR (oIn (K := K)) (pe_ix (ixL (K := K)) (pv 0) pe_int (fun _ _ => rfl)) (pe_glob (v := .ref CFAR_STEPS.a) rfl CFAR_STEPS.g rfl) rfl)))) (pss_one (ps_ret (pe_tup (pa_cons pe_str (pa_cons (pe_callTy call_int_str rfl T.b_int T.o_int (pa_cons (pe_ix (ixL (K := K)) (pv 0) pe_int (fun _ _ => rfl)) pa_nil)) pa_nil))))) pss_nil)
      (pss_one (ps_ret pe_non)))))), ?_⟩
    have no : ∀ H', Same H H' → mow ws ms = none → Q .non H' := fun H' S e => k .non H' S (by rw [e]; rfl)
    have get0 : ∀ {z : Str} {r : List Str}, ws = z :: r → atI (ws.map V.str) 0 = some (.str z) := fun e => by
      rw [e]
      exact atI_nat (j := 0) rfl
    have get1 : ∀ {z y : Str} {r : List Str}, ws = z :: y :: r → atI (ws.map V.str) 1 = some (.str y) := fun e => by
      rw [e]
      exact atI_nat (j := 1) rfl
    have len : ∀ n : Nat, decide (V.int (((ws.map V.str).length : Nat) : Int) = V.int n) = decide (ws.length = n) := fun n => by
      rw [List.length_map]
      congr 1
      rw [V.int.injEq]
      exact propext ⟨fun h => by omega, fun h => by omega⟩
    refine ⟨_, rfl, a, _, rfl, .inl hS, rfl, _, rfl, ?_⟩
    rw [show (V.int 1) = V.int ((1 : Nat) : Int) from rfl, len]
    -- the first test as a whole
    refine ite2 (fun c1 => ?_) (fun c1 => ?_)
    · have c1 : ws.length = 1 := of_decide_eq_true c1
      obtain ⟨z, rfl⟩ : ∃ z, ws = [z] := List.length_eq_one_iff.mp c1
      refine ⟨_, rfl, a, _, _, _, rfl, rfl, hS, get0 rfl, CPLAIN.a, _, rfl, .inr (CPLAIN.q H), rfl, flat_strs _, _, rfl, ?_⟩
      show (if (inV (.str z) (plainW.map V.str)) = true then _ else _)
      rw [in_strs]
      refine ite2 (fun c2 => ?_) (fun c2 => ?_)
      · refine ⟨_, rfl, a, _, _, _, rfl, rfl, hS, get0 rfl, (by show 1 ≤ sizeLine; decide), fun p hp => ?_⟩
        refine k _ _ (same_new hp) ?_
        unfold mow
        simp only
        rw [if_pos (of_decide_eq_true c2)]
        exact .tup (SqT.of upd_same) (.cons (.str z) .nil)
      · refine ⟨_, rfl, a, _, rfl, .inl hS, rfl, _, rfl, ?_⟩
        refine iteT (no H (Same.refl H) ?_)
        unfold mow
        simp only
        rw [if_neg (fun h => c2 (decide_eq_true h))]
    · have c1 : ws.length ≠ 1 := fun h => c1 (decide_eq_true h)
      refine iteF ⟨_, rfl, a, _, rfl, .inl hS, rfl, _, rfl, ?_⟩
      rw [show (V.int 2) = V.int ((2 : Nat) : Int) from rfl, len]
      refine ite2 (fun c2 => ?_) (fun c2 => ?_)
      · have c2 : ws.length ≠ 2 := by simpa using c2
        refine no H (Same.refl H) ?_
        unfold mow
        rcases ws with _ | ⟨z, _ | ⟨y, _ | ⟨x, r⟩⟩⟩
        · rfl
        · exact absurd rfl c1
        · exact absurd rfl c2
        · rfl
      · have c2 : ws.length = 2 := by simpa using c2
        obtain ⟨z, y, rfl⟩ : ∃ z y, ws = [z, y] := by
          rcases ws with _ | ⟨z, _ | ⟨y, _ | ⟨x, r⟩⟩⟩
          · cases c2
          · cases c2
          · exact ⟨z, y, rfl⟩
          · simp at c2
        have sEq : ∀ (x y : Str), decide (V.str x = V.str y) = decide (x = y) := fun x y => by
          congr 1
          rw [V.str.injEq]
        refine ⟨_, rfl, a, _, _, _, rfl, rfl, hS, get0 rfl, rfl, _, rfl, ?_⟩
        rw [sEq]
        -- the last test
        have far : ¬ (z = "head" ∧ y ∈ ms) → tSeq (tIfS (tAnd (tTest (tOp rEq (tOp (rIxL K) (tVar 0) (tC (V.int 0))) (tC (V.str "far")))) (tTest (tOp (rIn K false) (tOp (rIxL K) (tVar 0) (tC (V.int 1))) (tC (V.ref CFAR_STEPS.a)))))
            (tRet (tTup (tCons (tC (V.str "far")) (tCons (tCB (fun xs H Q => ∃ a n, xs = [V.str a] ∧ intText? a = some n ∧ a.length ≤ 640 ∧ Q (V.int n) H) (tCons (tOp (rIxL K) (tVar 0) (tC (V.int 1))) tNil)) tNil)))) tNext) (tRet (tC V.non))
            { nx := fun x H' => Q V.non H', rt := Q } (L2.start nmanner_of_words [V.ref a, V.ref b]) H := by
          intro nh
          refine ⟨_, rfl, a, _, _, _, rfl, rfl, hS, get0 rfl, rfl, _, rfl, ?_⟩
          rw [sEq]
          refine ite2 (fun c3 => ?_) (fun c3 => ?_)
          · have c3 : z = "far" := of_decide_eq_true c3
            refine ⟨_, rfl, a, _, _, _, rfl, rfl, hS, get1 rfl, CFAR_STEPS.a, _, rfl, .inr (CFAR_STEPS.q H), rfl, flat_strs _, _, rfl, ?_⟩
            show (if (inV (.str y) (stepW.map V.str)) = true then _ else _)
            rw [in_strs]
            refine ite2 (fun c4 => ?_) (fun c4 => ?_)
            · have c4 : y ∈ stepW := of_decide_eq_true c4
              have hy : intText? y = some (stepI y) ∧ y.length ≤ 640 := by
                have q : ∀ x ∈ stepW, intText? x = some (stepI x) ∧ x.length ≤ 640 := by decide +kernel
                exact q y c4
              refine ⟨_, rfl, a, _, _, _, rfl, rfl, hS, get1 rfl, y, _, rfl, hy.1, hy.2, (by show 2 ≤ sizeLine; decide), fun p hp => ?_⟩
              refine k _ _ (same_new hp) ?_
              unfold mow
              simp only
              rw [if_neg nh, if_pos ⟨c3, c4⟩]
              exact .tup (SqT.of upd_same) (.cons (.str _) (.cons (.int _) .nil))
            · refine no H (Same.refl H) ?_
              unfold mow
              simp only
              rw [if_neg nh, if_neg (fun h => c4 (decide_eq_true h.2))]
          · refine iteF (no H (Same.refl H) ?_)
            unfold mow
            simp only
            rw [if_neg nh, if_neg (fun h => c3 (decide_eq_true h.1))]
        refine ite2 (fun c3 => ?_) (fun c3 => ?_)
        · have c3 : z = "head" := of_decide_eq_true c3
          refine ⟨_, rfl, a, _, _, _, rfl, rfl, hS, get1 rfl, _, rfl, b, _, rfl, hM, rfl, flat_strs _, _, rfl, ?_⟩
          show (if (inV (.str y) (ms.map V.str)) = true then _ else _)
          rw [in_strs]
          refine ite2 (fun c4 => ?_) (fun c4 => ?_)
          · have c4 : y ∈ ms := of_decide_eq_true c4
            refine ⟨_, rfl, a, _, _, _, rfl, rfl, hS, get1 rfl, (by show 2 ≤ sizeLine; decide), fun p hp => ?_⟩
            refine k _ _ (same_new hp) ?_
            unfold mow
            simp only
            rw [if_pos ⟨c3, c4⟩]
            exact .tup (SqT.of upd_same) (.cons (.str _) (.cons (.str _) .nil))
          · exact far fun h => c4 (decide_eq_true h.2)
        · exact iteF (far fun h => c3 (decide_eq_true h.1))
/-! ### read_manner -/
def spRead (K : PySem.W.Frag) : Sp := fun vs H Q _ => ∃ (x : Str) (b : Addr) (ms : List Str), vs = [.str x, .ref b] ∧ x.length ≤ 40000 ∧ Sq K H b (ms.map V.str) ∧
  ∀ v H', Same H H' → IsMow K H' v (mow (words4 x) ms) → Q v H'
abbrev sread_manner : Stmt := top 17
abbrev nread_manner : List Str := ["text", "members"]
theorem scread_manner : FnScope nread_manner ["text", "members"] (defScope sread_manner) := ⟨rfl, rfl, rfl, by decide +kernel, rfl, by decide +kernel, by decide +kernel⟩
theorem ok_read {f : Addr} {fd : FuncData} (F : Fun K "read_manner" "read_manner" sread_manner f fd) (T : Bt mg) (Dwords_of : Dn P w K mg base 1 "words_of" ["text"] spOf) (Dmanner_of_words : Dn P w K mg base 1 "manner_of_words" ["words", "members"] (spManner K)) : FnOk P w K mg base CX0 2 f fd ["text", "members"] (spRead K) := by
  refine F.ok scread_manner (fun vs H Q E h => ?_) (fun cdv A outer s H vs Q E hr h => ?_)
  · obtain ⟨x, b, ms, rfl, _⟩ := h
    rfl
  · obtain ⟨x, b, ms, rfl, lx, hM, k⟩ := h
    refine ⟨_, (pss_one (ps_ret (pe_call Dmanner_of_words.ok (hr.mono (by omega)) rfl Dmanner_of_words.mg Dmanner_of_words.kp Dmanner_of_words.bd .nil pass0 (pa_cons (pe_call Dwords_of.ok (hr.mono (by omega)) rfl Dwords_of.mg Dwords_of.kp Dwords_of.bd .nil pass0 (pa_cons (pv 0) pa_nil)) (pa_cons (pv 1) pa_nil))))), ?_⟩
    refine ⟨_, rfl, x, rfl, lx, fun p H1 hp S1 hp1 => ?_⟩
    refine ⟨_, rfl, p, _, b, ms, rfl, SqL.of hp1, hM.elim (fun h => .inl (S1.seq h)) (fun h => .inr (Same.sqT S1 h)), fun v H2 S2 hv => ?_⟩
    exact k v H2 (S1.trans S2) hv
end Bq
set_option Elab.async false
set_option linter.all false
set_option maxRecDepth 100000
set_option maxHeartbeats 4000000
/-! ## enumerate over a tuple; list.count of texts -/
namespace Ce
open PySem PySem.Spec PyProof.Rows L2
open AutoSeq1 (wpAny_loadPart')
set_option maxHeartbeats 4000000 in
theorem new_enumT (a : Addr) (its : Array Value) : Meets (Builtin.«enumerate.__new__» ⟨[.type "enumerate", .ref a], []⟩) (fun _ R s => s.heap.IsTuple a its ∧
    R (.ok (.ret (.ref (s.heap.objs.size + 1)))) { s with heap := (s.heap.push { cls := .type "tuple_iterator", data := .fields #[.ref a, .int 0 0] }).push { cls := .type "enumerate", data := .fields #[.none, .bool false, .ref s.heap.objs.size, rawInt 0, .none, .none] } }) :=
  .of_wp fun prog w A R s h => by
    obtain ⟨hp, g, d, tk, os⟩ := s
    obtain ⟨ht, h⟩ := h
    have ez : hp.objs.size + 1 = (hp.push { cls := .type "tuple_iterator", data := .fields #[.ref a, .int 0 0] }).objs.size := by rw [Heap.size_push]
    rw [show (Shared.heap ⟨hp, g, d, tk, os⟩).objs.size + 1 = (hp.push { cls := .type "tuple_iterator", data := .fields #[.ref a, .int 0 0] }).objs.size from ez] at h
    have hsub := sub_enumerate
    have q : ∀ {A' : Around} {E : Value → Shared → Prop} {Q : Value → Shared → Prop}, Q (.ref hp.objs.size) ⟨(hp.push { cls := .type "tuple_iterator", data := .fields #[.ref a, .int 0 0] }), g, d, tk, os⟩ → wpAny (model prog w) A' (pyIter (.ref a)) Q E ⟨hp, g, d, tk, os⟩ :=
      fun z => wpAny_pyIter_tuple ht z
    wp_walk using q
    refine wpAny_stack_any fun st => wpAny_pure ?_
    split
    · rename_i c _ _ _ _ _
      by_cases e : (c == Value.type "enumerate") = true
      · rw [e]
        wp_walk using q
        exact ⟨_, rfl, h⟩
      · rw [Bool.not_eq_true] at e
        rw [e]
        wp_walk using q
        exact ⟨_, rfl, h⟩
    · wp_walk using q
      exact ⟨_, rfl, h⟩
/-- the tuple at a, its items in new pairs with their numbers -/
def Itu (K : PySem.W.Frag) (a : Addr) : It :=
  ⟨fun i H => ∃ (xs : List V) (x : V), SqT K H a xs ∧ xs[i]? = some x,
   fun i H v H' => ∃ T x, v = .ref T ∧ H T = none ∧ H' = upd H T (.tup [.int (i : Nat), x]) ∧ ∀ xs, SqT K H a xs → xs[i]? = some x,
   fun i H => ∃ xs : List V, SqT K H a xs ∧ xs.length = i⟩
theorem turn_enumT {P : Program} {w : World} {K : PySem.W.Frag} {elts : List Expr} {kk : Nat} {tpos : Pos} (a e it : Addr) :
    Turn P w K (.Tuple elts kk tpos) (Itu K a) [e, it] e (fun i h => (∃ old, IsEnum h e it ((i : Nat) : Int) old) ∧ h.IsTupleIter it a i ∧ e ≠ it) where
  mem := by simp
  obj := by
    rintro i h ⟨⟨old, he⟩, ⟨o, ho, _, hd⟩, _⟩ b hb
    rcases List.mem_cons.mp hb with rfl | hb
    · exact ⟨_, he, fun v q => nomatch q⟩
    · obtain rfl := List.mem_singleton.mp hb
      exact ⟨o, ho, fun v q => by rw [hd] at q; cases q⟩
  keep := by
    rintro i h h' ⟨⟨old, he⟩, hi, hne⟩ k
    exact ⟨⟨old, k e (by simp) _ he⟩, hi.at fun o q => k it (by simp) o q, hne⟩
  item := by
    intro X hP hw hK hc i pins s σ H E I hf st hg
    subst hP hw hK
    obtain ⟨⟨old, he⟩, hit, hne⟩ := st
    obtain ⟨xs, x, hq, hx⟩ := hg
    obtain ⟨its, rv, p, _⟩ := I.tuple hq
    obtain ⟨u, hu, ru⟩ := rv.get hx
    have hp : s.heap.IsTuple a its.toArray := p
    have lt : i < its.toArray.size := by
      have := (List.getElem?_eq_some_iff.mp hu).1
      simpa using this
    have ae : e ≠ a := fun q => by
      obtain ⟨o, ho, hc', _⟩ := hp
      rw [← q, he] at ho
      cases ho
      exact absurd hc' (by simp)
    have ai : a ≠ it := fun q => by
      obtain ⟨o, ho, hc', _⟩ := hp
      obtain ⟨o', ho', hc2, _⟩ := hit
      rw [q, ho'] at ho
      cases ho
      rw [hc2] at hc'
      exact absurd hc' (by simp)
    have hel : e < s.heap.objs.size := Heap.lt_size he
    have hil : it < s.heap.objs.size := by
      obtain ⟨_, q, _⟩ := hit
      exact Heap.lt_size q
    refine wpAny_pyNext_enum_itemD (Draws.tuple (prog := X.prog) (w := X.w) (A := X.A.in1) (I.ok.hd hc) it a ai its.toArray) he ⟨hit, hp⟩ lt hne (by simp [hne, ae]) fun y h1 tk hy ho st1 hT _ hk => ?_
    have ey : y = u := by
      have hu' : its.toArray[i]? = some u := by simpa using hu
      rw [hu'] at hy
      exact (Option.some.inj hy).symm
    subst ey
    refine ⟨_, rfl, wpAny_letOwnedTupleGo_enum (s := { s with heap := h1, toks := tk + 1 }) ho fun h2 he2 sb => ?_⟩
    have hT2 : h2.get? s.heap.objs.size = some { cls := .type "tuple", data := .seq #[.int i tk, y] } := (sb.2 _ (Nat.ne_of_gt hel)).trans hT
    have I1 : Inv X pins σ (upd H s.heap.objs.size (.tup [.int (i : Nat), x])) { s with heap := h2, toks := tk + 1 } :=
      I.turnedNew (ch := [e, it]) (fun b ob hb q => (sb.2 b (fun z => hb (by simp [z]))).trans (hk b ob (fun z => hb (by simp [z])) (fun z => hb (by simp [z])) q)) hf (Nat.le_refl _)
        ⟨by show 2 ≤ sizeLine; decide, [.int i tk, y], .cons ⟨_, rfl⟩ (.cons ru .nil), ⟨_, hT2, rfl, _, rfl⟩⟩
    refine ⟨.ref s.heap.objs.size, _, I1, rfl, ⟨_, x, rfl, I.hok.fresh (Nat.le_refl _), rfl, fun ys hy => by rw [I.tuple_inj hy hq]; exact hx⟩, ⟨⟨y, ?_⟩, st1.1.at fun o q => (sb.2 it (Ne.symm hne)).trans q, hne⟩, fun b hb => ?_⟩
    · have e1 : ((i + 1 : Nat) : Int) = (i : Int) + 1 := by omega
      rw [e1]
      exact he2
    · have hb' : b < s.heap.objs.size := by
        rcases List.mem_cons.mp hb with rfl | hb
        · exact hel
        · obtain rfl := List.mem_singleton.mp hb
          exact hil
      rw [upd_ne (Nat.ne_of_lt hb')]
      exact (hf b hb).1
  done := by
    intro X hP hw hK hc i pins s σ H E I hf st hg
    subst hP hw hK
    obtain ⟨⟨old, he⟩, hit, hne⟩ := st
    obtain ⟨xs, hq, hx⟩ := hg
    obtain ⟨its, rv, p, _⟩ := I.tuple hq
    have hp : s.heap.IsTuple a its.toArray := p
    obtain ⟨f0, f1, f2, f3, f4, f5⟩ := hf it (by simp)
    have ai : a ≠ it := fun q => by
      obtain ⟨o, ho, hc', _⟩ := hp
      obtain ⟨o', ho', hc2, _⟩ := hit
      rw [q, ho'] at ho
      cases ho
      rw [hc2] at hc'
      exact absurd hc' (by simp)
    have hl := rv.length
    have ei : i = its.toArray.size := by
      have : its.toArray.size = its.length := by simp
      omega
    rw [ei] at hit
    exact wpAny_pyNext_enum_endD (Draws.tuple (prog := X.prog) (w := X.w) (A := X.A.in1) (I.ok.hd hc) it a ai its.toArray) he ⟨hit, hp⟩ fun h' eb => ⟨rfl, I.turned (t' := s.toks) (fun b o hb q => eb b o hb q) f0 f1 f3 f4 f5⟩
  self := fun A i s Q E st h => let ⟨⟨_, he⟩, _⟩ := st; wpAny_pyIter_enum he h
def iEnumT (K : PySem.W.Frag) (ta : TA) : TI := fun σ H R => ta σ H fun vs H1 => ∃ a xs, vs = [.ref a] ∧ SqT K H1 a xs ∧ R (Itu K a) H1
theorem pi_enumT {X : Cx} {K : PySem.W.Frag} {e : Expr} {ta : TA} {p pos tpos : Pos} {elts : List Expr} {kk : Nat} (hg : Gl X "enumerate") (hm : X.mg "enumerate" = none) (ha : PA X [e] ta) (hK : X.K = K := by rfl) (hs : starEach [e] X.env = [(false, eval e X.env)] := by rfl) :
    PI X (.Tuple elts kk tpos) (.Call (.Name "enumerate" p) [e] [] pos) (iEnumT K ta) := by
  subst hK
  refine ⟨fun pins s σ H R I h => Call_ (ld_blt I hg hm boot_enumerate (PyProof.Rows.callWith_type1 (thn (ha.run pos pins s σ H _ I h) fun us s1 ⟨vs, H1, I1, r1, q1⟩ => ?_) hs rfl))⟩
  obtain ⟨a, xs, rfl, hq, q⟩ := q1
  obtain ⟨u, rfl, r⟩ := vals1 r1
  cases r
  obtain ⟨its, rv, p', _⟩ := I1.tuple hq
  have hp : s1.heap.IsTuple a its.toArray := p'
  refine callType_new F.called_enumerate (by decide) (F.typeCall_enumerate_1 _) (F.newCall_enumerate_1 _) (fun obj => F.args_object_init_2 obj _) F.entry_enumerate_new (new_enumT a its.toArray) ⟨hp, ?_⟩
  have kp : ∀ b o, s1.heap.get? b = some o → ((s1.heap.push { cls := .type "tuple_iterator", data := .fields #[.ref a, .int 0 0] }).push { cls := .type "enumerate", data := .fields #[.none, .bool false, .ref s1.heap.objs.size, rawInt 0, .none, .none] }).get? b = some o := fun b o q => Heap.get?_push_of_some _ (Heap.get?_push_of_some _ q)
  have zz : (s1.heap.push { cls := .type "tuple_iterator", data := .fields #[.ref a, .int 0 0] }).objs.size = s1.heap.objs.size + 1 := by rw [Heap.size_push]
  have he : IsEnum ((s1.heap.push { cls := .type "tuple_iterator", data := .fields #[.ref a, .int 0 0] }).push { cls := .type "enumerate", data := .fields #[.none, .bool false, .ref s1.heap.objs.size, rawInt 0, .none, .none] }) (s1.heap.objs.size + 1) s1.heap.objs.size 0 .none := by
    have z := Heap.get?_push_size (s1.heap.push { cls := .type "tuple_iterator", data := .fields #[.ref a, .int 0 0] }) (o := { cls := .type "enumerate", data := .fields #[.none, .bool false, .ref s1.heap.objs.size, rawInt 0, .none, .none] }) rfl
    rw [zz] at z
    exact z
  have hi : Heap.IsTupleIter ((s1.heap.push { cls := .type "tuple_iterator", data := .fields #[.ref a, .int 0 0] }).push { cls := .type "enumerate", data := .fields #[.none, .bool false, .ref s1.heap.objs.size, rawInt 0, .none, .none] }) s1.heap.objs.size a 0 :=
    ⟨_, Heap.get?_push_of_some _ (Heap.get?_push_size _ rfl), rfl, rfl⟩
  generalize (s1.heap.push { cls := .type "tuple_iterator", data := .fields #[.ref a, .int 0 0] }).push { cls := .type "enumerate", data := .fields #[.none, .bool false, .ref s1.heap.objs.size, rawInt 0, .none, .none] } = h' at kp he hi ⊢
  refine ⟨⟨_, he, rfl⟩, wpAny_pyIter_enum he ?_⟩
  refine ⟨s1.heap.objs.size + 1, [s1.heap.objs.size + 1, s1.heap.objs.size], _, _, H1, rfl, I1.kept (t' := s1.toks) kp, turn_enumT a (s1.heap.objs.size + 1) s1.heap.objs.size, ⟨⟨.none, he⟩, hi, Nat.succ_ne_self _⟩, fun b hb => ?_, q⟩
  have hle : s1.heap.objs.size ≤ b := by
    rcases List.mem_cons.mp hb with rfl | hb
    · exact Nat.le_add_right _ _
    · obtain rfl := List.mem_singleton.mp hb
      exact Nat.le_refl _
  exact I1.fpOk hle (I1.hok.fresh hle)
theorem for_enumT {K : PySem.W.Frag} {a : Addr} {xs : List V} {g : TG} {tb : TS} {D : Ends} {σ : L2.St} {H : Hp} (Pv : Nat → L2.St → Hp → Prop) (h0 : Pv 0 σ H) (hl : ∀ i σ H, i ≤ xs.length → Pv i σ H → SqT K H a xs)
    (hs : ∀ i x σ H T, xs[i]? = some x → Pv i σ H → H T = none → g (.ref T) σ (upd H T (.tup [.int (i : Nat), x])) fun σ2 H2 => tb { D with nx := Pv (i + 1), ct := Pv (i + 1), bk := D.nx } σ2 H2) (hd : ∀ σ H, Pv xs.length σ H → D.nx σ H) :
    ∃ W : Nat → Nat → L2.St → Hp → Prop, (∃ m, W 0 m σ H) ∧ ∀ i m σ H, W i m σ H →
      ((Itu K a).stop i H ∧ D.nx σ H) ∨ ((Itu K a).go i H ∧ ∃ N : L2.St → Hp → Prop, (∀ σ' H', N σ' H' → ∃ m', m' < m ∧ W (i + 1) m' σ' H') ∧ ∀ x H', (Itu K a).yld i H x H' → g x σ H' fun σ2 H2 => tb { D with nx := N, ct := N, bk := D.nx } σ2 H2) := by
  refine ⟨fun i m σ H => m = xs.length - i ∧ i ≤ xs.length ∧ Pv i σ H, ⟨xs.length, by simp, Nat.zero_le _, h0⟩, ?_⟩
  rintro i m σ H ⟨rfl, hi, p⟩
  have q := hl i σ H hi p
  by_cases hlt : i < xs.length
  · refine .inr ⟨⟨xs, xs[i], q, by simp [hlt]⟩, Pv (i + 1), fun σ' H' p' => ⟨xs.length - (i + 1), by omega, rfl, hlt, p'⟩, fun x H' y => ?_⟩
    obtain ⟨T, z, rfl, hT, rfl, y⟩ := y
    exact hs i z σ H T (y xs q) p hT
  · have e : i = xs.length := by omega
    subst e
    exact .inl ⟨⟨xs, q, rfl⟩, hd σ H p⟩
theorem strs_of : ∀ {ys : List Str} {its : List Value}, Vals (ys.map V.str) its → StrsAre its ys
  | [], _, .nil => .nil
  | y :: ys, _, .cons ⟨t, e⟩ r => by
    subst e
    exact .cons y t (strs_of r)
theorem count_eq (k : Str) : ∀ ys : List Str, PySem.Spec.countIn (.str k) (ys.map PyData.str) = ((ys.count k : Nat) : Int)
  | [] => rfl
  | y :: ys => by
    rw [List.map_cons, PySem.Spec.countIn, count_eq k ys, List.count_cons]
    by_cases h : y = k
    · subst h
      simp [PySem.Spec.same]
      omega
    · have h2 : (y == k) = false := by simpa using h
      rw [h2]
      simp [PySem.Spec.same, h]
theorem mt_countS {X : Cx} {K : PySem.W.Frag} (hK : X.K = K := by rfl) : MtR X "list.count" (fun x xs H Q => ∃ (a : Addr) (ys : List Str) (k : Str), x = .ref a ∧ xs = [.str k] ∧ SqL K H a (ys.map V.str) ∧ Q (.int (ys.count k : Nat)) H) := by
  subst hK
  intro pins s σ H x xs v us Q I rx r h
  obtain ⟨a, ys, k, rfl, rfl, hq, q⟩ := h
  cases rx
  obtain ⟨u, rfl, t, rfl⟩ := vals1 r
  obtain ⟨its, rv, p, _⟩ := I.list hq
  refine count_list_strs p.isList (ys := ys) (strs_of rv) ?_
  rw [count_eq]
  exact ⟨.int _, H, I.tok _, ⟨_, rfl⟩, q⟩
end Ce
set_option Elab.async false
set_option linter.all false
set_option maxRecDepth 100000
set_option maxHeartbeats 4000000
namespace Bq
open PySem L2 Cw
variable {P : Program} {w : World} {K : PySem.W.Frag} {mg : Str → Option Value} {base : Heap}
/-! ### Taste -/
structure Tx (K : PySem.W.Frag) (C : Addr) : Prop where
  cl : Cls K C
  n1 : NoAttr K C "classes"
  n2 : NoAttr K C "_ranks"
def TasteR (C : Addr) (H : Hp) (p r : Addr) (gs : List (List Str)) : Prop := ∃ dx fs kvs, H p = some (.ins C dx fs) ∧ fs.lookup ("_ranks" : Str) = some (.ref r) ∧ H r = some (.dK kvs) ∧ Rk kvs gs ∧ fs.lookup ("rank" : Str) = none ∧ fs.lookup ("above" : Str) = none
def TasteAt (C : Addr) (H : Hp) (p : Addr) (gs : List (List Str)) : Prop := ∃ r, TasteR C H p r gs
def spTaste (C : Addr) : Sp := fun vs H Q _ => ∃ (p dx a b : Addr) (ts : List V) (gs : List (List Str)) (os : List Str), vs = [.ref p, .ref a, .ref b] ∧ H p = some (.ins C dx []) ∧ H a = some (.lst ts) ∧ Two (LsS H) ts gs ∧ H b = some (.lst (os.map V.str)) ∧
  gs.flatten.Perm os ∧ os.Nodup ∧ gs ≠ [] ∧ (∀ g, g ∈ gs → g ≠ []) ∧ os.length ≤ 100 ∧ gs.length ≤ 100 ∧ ∀ H' r, TasteR C H' p r gs → H r = none → (∀ b o, H b = some o → b ≠ p → H' b = some o) → Q .non H'
/-! ### [elt for x in xs for y in ys] -/
theorem lc2_in {K : PySem.W.Frag} {q : Addr} {ys : List V} {g1 : TG} {tt1 : TT} {te : TE} {vs1 : List Nat} {σ2 : L2.St} {H4 : Hp} {D : Addr} {Nx : Hp → Prop} (Pw : Nat → Hp → Prop) (h0 : Pw 0 H4) (hl : ∀ j H, j ≤ ys.length → Pw j H → SqL K H q ys)
    (hs : ∀ j x H, ys[j]? = some x → Pw j H → g1 x (wipe σ2 vs1) H fun σ3 H5 => wipe σ3 vs1 = wipe σ2 vs1 ∧ tt1 σ3 H5 fun b H6 => if b = true then te σ3 H6 fun y H7 => ∃ acc, H7 D = some (.lst acc) ∧ acc.length < sizeLine ∧ Pw (j + 1) (upd H7 D (.lst (acc ++ [y]))) else Pw (j + 1) H6) (hd : ∀ H, Pw ys.length H → Nx H) :
    ∃ W1 : Nat → Nat → Hp → Prop, (∃ m, W1 0 m H4) ∧ ∀ j k H, W1 j k H →
      ((Itl K q).stop j H ∧ Nx H) ∨ ((Itl K q).go j H ∧ ∃ Nx1 : Hp → Prop, (∀ H', Nx1 H' → ∃ k', k' < k ∧ W1 (j + 1) k' H') ∧ ∀ x H', (Itl K q).yld j H x H' → g1 x (wipe σ2 vs1) H' fun σ3 H5 => wipe σ3 vs1 = wipe σ2 vs1 ∧ tt1 σ3 H5 fun b H6 =>
        if b = true then te σ3 H6 fun y H7 => ∃ acc, H7 D = some (.lst acc) ∧ acc.length < sizeLine ∧ Nx1 (upd H7 D (.lst (acc ++ [y]))) else Nx1 H6) := by
  refine ⟨fun j k H => k = ys.length - j ∧ j ≤ ys.length ∧ Pw j H, ⟨ys.length, by simp, Nat.zero_le _, h0⟩, ?_⟩
  rintro j k H ⟨rfl, hj, p⟩
  have q := hl j H hj p
  by_cases hlt : j < ys.length
  · refine .inr ⟨⟨ys, ys[j], q, by simp [hlt]⟩, Pw (j + 1), fun H' p' => ⟨ys.length - (j + 1), by omega, rfl, hlt, p'⟩, fun x H' y => ?_⟩
    obtain ⟨e, y⟩ := y
    subst e
    exact hs j x _ (y ys q) p
  · have e : j = ys.length := by omega
    subst e
    exact .inl ⟨⟨ys, q, Nat.le_refl _⟩, hd H p⟩
theorem lc2_out {K : PySem.W.Frag} {a : Addr} {xs : List V} {g : TG} {tt : TT} {wi1 : TI} {g1 : TG} {tt1 : TT} {te : TE} {vs vs1 : List Nat} {σ : L2.St} {H1 : Hp} {D : Addr} {Qd : Hp → Prop} (Pv : Nat → Hp → Prop) (h0 : Pv 0 (upd H1 D (.lst []))) (hl : ∀ i H, i ≤ xs.length → Pv i H → SqL K H a xs)
    (hs : ∀ i x H, xs[i]? = some x → Pv i H → g x (wipe σ vs) H fun σ2 H2 => wipe σ2 vs = wipe σ vs ∧ tt σ2 H2 fun b H3 =>
      if b = true then wi1 σ2 H3 fun J1 H4 => ∃ W1 : Nat → Nat → Hp → Prop, (∃ m, W1 0 m H4) ∧ ∀ j k H, W1 j k H →
        (J1.stop j H ∧ Pv (i + 1) H) ∨ (J1.go j H ∧ ∃ Nx1 : Hp → Prop, (∀ H', Nx1 H' → ∃ k', k' < k ∧ W1 (j + 1) k' H') ∧ ∀ x H', J1.yld j H x H' → g1 x (wipe σ2 vs1) H' fun σ3 H5 => wipe σ3 vs1 = wipe σ2 vs1 ∧ tt1 σ3 H5 fun b H6 =>
          if b = true then te σ3 H6 fun y H7 => ∃ acc, H7 D = some (.lst acc) ∧ acc.length < sizeLine ∧ Nx1 (upd H7 D (.lst (acc ++ [y]))) else Nx1 H6)
      else Pv (i + 1) H3) (hd : ∀ H, Pv xs.length H → Qd H) :
    ∃ W : Nat → Nat → Hp → Prop, (∃ m, W 0 m (upd H1 D (.lst []))) ∧ ∀ i m H, W i m H →
      ((Itl K a).stop i H ∧ Qd H) ∨ ((Itl K a).go i H ∧ ∃ Nx : Hp → Prop, (∀ H', Nx H' → ∃ m', m' < m ∧ W (i + 1) m' H') ∧ ∀ x H', (Itl K a).yld i H x H' → g x (wipe σ vs) H' fun σ2 H2 => wipe σ2 vs = wipe σ vs ∧ tt σ2 H2 fun b H3 =>
        if b = true then wi1 σ2 H3 fun J1 H4 => ∃ W1 : Nat → Nat → Hp → Prop, (∃ m, W1 0 m H4) ∧ ∀ j k H, W1 j k H →
          (J1.stop j H ∧ Nx H) ∨ (J1.go j H ∧ ∃ Nx1 : Hp → Prop, (∀ H', Nx1 H' → ∃ k', k' < k ∧ W1 (j + 1) k' H') ∧ ∀ x H', J1.yld j H x H' → g1 x (wipe σ2 vs1) H' fun σ3 H5 => wipe σ3 vs1 = wipe σ2 vs1 ∧ tt1 σ3 H5 fun b H6 =>
            if b = true then te σ3 H6 fun y H7 => ∃ acc, H7 D = some (.lst acc) ∧ acc.length < sizeLine ∧ Nx1 (upd H7 D (.lst (acc ++ [y]))) else Nx1 H6)
        else Nx H3) := by
  refine ⟨fun i m H => m = xs.length - i ∧ i ≤ xs.length ∧ Pv i H, ⟨xs.length, by simp, Nat.zero_le _, h0⟩, ?_⟩
  rintro i m H ⟨rfl, hi, p⟩
  have q := hl i H hi p
  by_cases hlt : i < xs.length
  · refine .inr ⟨⟨xs, xs[i], q, by simp [hlt]⟩, Pv (i + 1), fun H' p' => ⟨xs.length - (i + 1), by omega, rfl, hlt, p'⟩, fun x H' y => ?_⟩
    obtain ⟨e, y⟩ := y
    subst e
    exact hs i x _ (y xs q) p
  · have e : i = xs.length := by omega
    subst e
    exact .inl ⟨⟨xs, q, Nat.le_refl _⟩, hd H p⟩
/-- a heap that has all of another and the new list at D besides -/
theorem keepD {H H2 H3 : Hp} {D : Addr} {o : HO} (hn : H D = none) (a : Same H H2) (b : Same H2 H3) : Same H (upd H3 D o) := fun c u hc => by
  rw [upd_ne (ne_of_none hc hn)]
  exact b _ _ (a _ _ hc)
def clsOf (os : List Str) (gs : List (List Str)) : List (List Str) := gs.map fun g => os.filter fun z => decide (z ∈ g)
theorem take_next {α : Type} {xs : List α} {i : Nat} {x : α} (h : xs[i]? = some x) : xs.take (i + 1) = xs.take i ++ [x] := by
  rw [List.take_add_one, h]
  rfl
abbrev sTaste___init__ : Stmt := inClass (top 19) 0
abbrev nTaste___init__ : List Str := ["self", "classes", "outcomes", "groups", "listed", "missing", "place", "group", "outcome", "one"]
theorem scTaste___init__ : FnScope nTaste___init__ ["self", "classes", "outcomes"] (defScope sTaste___init__) := ⟨rfl, rfl, rfl, by decide +kernel, rfl, by decide +kernel, by decide +kernel⟩
theorem ok_taste {C : Addr} {f : Addr} {fd : FuncData} (F : Fun K "__init__" "Taste.__init__" sTaste___init__ f fd) (T : Bt mg) (Z : Tx K C) : FnOk P w K mg base CX0 1 f fd ["self", "classes", "outcomes"] (spTaste C) := by
  refine F.ok scTaste___init__ (fun vs H Q E h => ?_) (fun cdv A outer s H vs Q E hr h => ?_)
  · obtain ⟨p, dx, a, b, ts, gs, os, rfl, _⟩ := h
    rfl
  · obtain ⟨p, dx, a, b, ts, gs, os, rfl, hp, ha, tw, hb, pm, nd, n0, ne, l1, l2, k⟩ := h
    have hu : (A.deeper (PyProof.Rows.envOfC (Str.ofString "Taste.__init__") (defScope sTaste___init__) s.heap.objs.size f cdv)).units + 1 < cLine := by have := hr.units; omega
    refine ⟨_, (pss_cons (ps_setLc (i := 3) (own := [("group", 7)]) (g := gName 7) (tt := tYes) rfl scTaste___init__.nd rfl rfl (sw_true rfl rfl rfl (by decide +kernel)) (piL (K := K) (pv 1)) (blkOk_by (own := [("group", 7)]) (N := nTaste___init__) (sc := defScope sTaste___init__) (by decide +kernel)) (fun _ _ _ _ _ => pg_name (i := 7) scTaste___init__.nd rfl (Or.inl rfl)) (fun _ _ _ _ _ => pts_nil) (fun _ _ _ _ _ => (pe_callTy (cList (K := K)) rfl T.b_list T.o_list (pa_cons (pv 7) pa_nil))))
      (pss_cons (ps_set (i := 4) scTaste___init__.nd rfl (Or.inr rfl) (pe_lc2 (own := [("group", 7), ("outcome", 8)]) (vs1 := [8]) (g := gName 7) (tt := tYes) (g1 := gName 8) (tt1 := tYes) rfl scTaste___init__.nd (piL (K := K) (pv 3)) (blkOk_by (own := [("group", 7), ("outcome", 8)]) (N := nTaste___init__) (sc := defScope sTaste___init__) (by decide +kernel)) (by decide) (fun _ _ _ _ _ => pg_name (i := 7) scTaste___init__.nd rfl (Or.inl rfl)) (fun _ _ _ _ _ => pts_nil) (fun _ _ _ _ _ => (PI.or (piL (K := K) (pv 7)) (piT (K := K) (pv 7)))) (fun _ _ _ _ _ => pg_name (i := 8) scTaste___init__.nd rfl (Or.inl rfl)) (fun _ _ _ _ _ => pts_nil) (fun _ _ _ _ _ => (pv 8))))
      (pss_cons (ps_if (PW.pt (pw_or (pt_cmpR op_eq (pe_callB (cLen (K := K)) rfl T.b_len T.o_len (pa_cons (pv 3) pa_nil)) pe_int (nomark _)) (pw_or1 (pt_not (pt_val (pe_callB (cAll (K := K) rfl) rfl T.b_all T.o_all (pa_cons (pe_lc (own := [("group", 7)]) (g := gName 7) (tt := tYes) rfl scTaste___init__.nd (piL (K := K) (pv 3)) (blkOk_by (own := [("group", 7)]) (N := nTaste___init__) (sc := defScope sTaste___init__) (by decide +kernel)) (fun _ _ _ _ _ => pg_name (i := 7) scTaste___init__.nd rfl (Or.inl rfl)) (fun _ _ _ _ _ => pts_nil) (fun _ _ _ _ _ => (pe_cmpR op_gt (pe_callB (cLen (K := K)) rfl T.b_len T.o_len (pa_cons (pv 7) pa_nil)) pe_int (nomark _)))) pa_nil))))))) pss_never pss_nil)
      (pss_cons (ps_if (pt_not (pt_val (pe_callB (cAll (K := K) rfl) rfl T.b_all T.o_all (pa_cons (pe_lc (own := [("outcome", 8)]) (g := gName 8) (tt := tYes) rfl scTaste___init__.nd (piL (K := K) (pv 4)) (blkOk_by (own := [("outcome", 8)]) (N := nTaste___init__) (sc := defScope sTaste___init__) (by decide +kernel)) (fun _ _ _ _ _ => pg_name (i := 8) scTaste___init__.nd rfl (Or.inl rfl)) (fun _ _ _ _ _ => pts_nil) (fun _ _ _ _ _ => (pe_and (pe_cmpR (oIn (K := K)) (pv 8) (pv 2) rfl) (pe_one (pe_cmpR op_eq (bm (K := K) PySem.F.plainAttrs_list PySem.F.slot_list_count PySem.F.type_list_count (Ce.mt_countS (K := K)) (pv 4) (pa_cons (pv 8) pa_nil)) pe_int (nomark _)))))) pa_nil)))) pss_never pss_nil)
      (pss_cons (ps_setLc (i := 5) (own := [("outcome", 8)]) (g := gName 8) rfl scTaste___init__.nd rfl rfl (sw_true rfl rfl rfl (by decide +kernel)) (piL (K := K) (pv 2)) (blkOk_by (own := [("outcome", 8)]) (N := nTaste___init__) (sc := defScope sTaste___init__) (by decide +kernel)) (fun _ _ _ _ _ => pg_name (i := 8) scTaste___init__.nd rfl (Or.inl rfl)) (fun _ _ _ _ _ => (pts_one (pt_cmpR (oNotIn (K := K)) (pv 8) (pv 4) rfl))) (fun _ _ _ _ _ => (pv 8)))
      (C8.pss_cut (ps_if (trth (K := K) (pv 5) (by intro _; rfl)) (pss_one (ps_expr (bm (K := K) PySem.F.plainAttrs_list PySem.F.slot_list_append PySem.F.type_list_append mt_append (pv 3) (pa_cons (pv 5) pa_nil)))) pss_nil)
      (pss_cons (ps_fld (pv 0) (pe_callTy (cTuple (K := K)) rfl T.b_tuple T.o_tuple (pa_cons (pe_lc (own := [("group", 7)]) (g := gName 7) (tt := tYes) rfl scTaste___init__.nd (piL (K := K) (pv 3)) (blkOk_by (own := [("group", 7)]) (N := nTaste___init__) (sc := defScope sTaste___init__) (by decide +kernel)) (fun _ _ _ _ _ => pg_name (i := 7) scTaste___init__.nd rfl (Or.inr rfl)) (fun _ _ _ _ _ => pts_nil) (fun _ _ _ _ _ => (pe_callTy (cTuple (K := K)) rfl T.b_tuple T.o_tuple (pa_cons (pe_lc (own := [("one", 9)]) (g := gName 9) rfl scTaste___init__.nd (piL (K := K) (pv 2)) (blkOk_by (own := [("one", 9)]) (N := nTaste___init__) (sc := (relS ({ kind := PySem.ScopeKind.function, names := [(PySem.Str.ofString ".0", PySem.NameKind.local), (PySem.Str.ofString "group", PySem.NameKind.cell), (PySem.Str.ofString "tuple", PySem.NameKind.globalImplicit), (PySem.Str.ofString "outcomes", PySem.NameKind.free)], isGenerator := false, isCoroutine := false } : PySem.Scope) (defScope sTaste___init__))) (by decide +kernel)) (fun _ _ _ _ _ => pg_name (i := 9) scTaste___init__.nd rfl (Or.inl rfl)) (fun _ _ _ _ _ => (pts_one (pt_cmpR (oIn (K := K)) (pv 9) (pv 7) rfl))) (fun _ _ _ _ _ => (pv 9))) pa_nil)))) pa_nil)) rfl)
      (pss_cons (ps_fld (pv 0) pe_dnewK rfl)
      (pss_one (ps_for PassesOwn.never rfl (Ce.pi_enumT (K := K) rfl T.b_enumerate (pa_cons (fld (K := K) (pv 0)) pa_nil)) (pg_tup rfl (pgs_cons (pg_name (i := 6) scTaste___init__.nd rfl (Or.inl rfl)) (pgs_cons (pg_name (i := 7) scTaste___init__.nd rfl (Or.inl rfl)) pgs_nil)))
      (pss_one (ps_for PassesOwn.never rfl (PI.or (piL (K := K) (pv 7)) (piT (K := K) (pv 7))) (pg_name (i := 8) scTaste___init__.nd rfl (Or.inl rfl))
      (pss_one (ps_dput hu (fld (K := K) (pv 0)) (pv 8) (pe_op op_sub (pe_op op_sub (pe_callB (cLen (K := K)) rfl T.b_len T.o_len (pa_cons (fld (K := K) (pv 0)) pa_nil)) pe_int) (pv 6)) rfl)))))))))))))), ?_⟩
    have lt := tw.len
    -- groups = [list(group) for group in classes]
    refine ⟨_, rfl, a, rfl, ⟨_, SqL.of ha⟩, fun D hD => ?_⟩
    refine lc_list (a := a) (xs := ts) (fun i H2 => ∃ acc, H2 D = some (.lst acc) ∧ Two (fun x g => x ≠ .ref D ∧ LsS H2 x g) acc (gs.take i) ∧ Same H H2) ⟨[], upd_same, .nil, same_new hD⟩ ?_ ?_ ?_
    · rintro i H2 _ ⟨_, _, _, S2⟩
      exact S2.seq (SqL.of ha)
    · rintro i x H2 hx ⟨acc, hD2, tw2, S2⟩
      obtain ⟨g, hg, q, rfl, hq⟩ := tw.get hx
      have il : i < ts.length := (List.getElem?_eq_some_iff.mp hx).1
      have la := tw2.len
      rw [List.length_take] at la
      refine ⟨rfl, _, rfl, q, _, rfl, .inl (SqL.of (S2 _ _ hq)), fun l hl => ?_⟩
      have Sl := same_new (o := .lst (g.map V.str)) hl
      have lD : l ≠ D := fun e => by rw [e, hD2] at hl; cases hl
      refine ⟨acc, Sl _ _ hD2, by show acc.length < 16777216; omega, acc ++ [.ref l], upd_same, ?_, keepD hD S2 Sl⟩
      rw [take_next hg]
      refine Two.snoc ⟨fun e => lD (by cases e; rfl), l, rfl, by rw [upd_ne lD]; exact upd_same⟩ (tw2.mono ?_)
      rintro x g ⟨n, r, rfl, h⟩
      refine ⟨n, r, rfl, ?_⟩
      rw [upd_ne (fun e => n (by rw [e]))]
      exact Sl _ _ h
    rintro H1 ⟨xs, hD1, tw1, S1⟩
    rw [lt, List.take_length] at tw1
    replace tw1 : Two (LsS H1) xs gs := tw1.mono fun _ _ h => h.2
    have lx := tw1.len
    have Dp' : p ≠ D := ne_of_none hp hD
    -- listed = [outcome for group in groups for outcome in group]
    refine ⟨_, rfl, D, rfl, ⟨_, SqL.of hD1⟩, fun L hL => ?_⟩
    refine lc2_out (wi1 := fun σ H R => iList K (tVar 7) σ H R ∨ iTup K (tVar 7) σ H R) (a := D) (xs := xs) (fun i H2 => H2 L = some (.lst ((gs.take i).flatten.map V.str)) ∧ Same H1 H2) ⟨upd_same, same_new hL⟩ ?_ ?_ ?_
    · rintro i H2 _ ⟨_, S2⟩
      exact S2.seq (SqL.of hD1)
    · rintro i x H2 hx ⟨hL2, S2⟩
      obtain ⟨g, hg, q, rfl, hq⟩ := tw1.get hx
      have fl : (gs.take (i + 1)).flatten = (gs.take i).flatten ++ g := by rw [take_next hg, List.flatten_append]; simp
      have fb : (gs.take (i + 1)).flatten.length ≤ 100 := by
        have e : gs.flatten = (gs.take (i + 1)).flatten ++ (gs.drop (i + 1)).flatten := by rw [← List.flatten_append, List.take_append_drop]
        have h1 := congrArg List.length e
        have h2 := pm.length_eq
        rw [List.length_append] at h1
        omega
      rw [fl, List.length_append] at fb
      refine ⟨rfl, .inl ⟨_, rfl, q, rfl, ⟨_, SqL.of (S2 _ _ hq)⟩, lc2_in (q := q) (ys := g.map V.str) (fun j H3 => H3 L = some (.lst (((gs.take i).flatten ++ g.take j).map V.str)) ∧ Same H1 H3) ⟨by rw [List.take_zero, List.append_nil]; exact hL2, S2⟩ ?_ ?_ ?_⟩⟩
      · rintro j H3 _ ⟨_, S3⟩
        exact S3.seq (SqL.of hq)
      · rintro j x H3 hx ⟨hL3, S3⟩
        have jl : j < g.length := by
          have := (List.getElem?_eq_some_iff.mp hx).1
          rw [List.length_map] at this
          exact this
        have ex : x = .str g[j] := by
          rw [List.getElem?_map, List.getElem?_eq_getElem jl] at hx
          exact (Option.some.inj hx).symm
        subst ex
        refine ⟨rfl, _, rfl, _, hL3, ?_, ?_, keepD hL S3 (Same.refl _)⟩
        · rw [List.length_map, List.length_append, List.length_take]
          show _ < 16777216
          omega
        · rw [upd_same, take_next (List.getElem?_eq_getElem jl)]
          simp only [List.map_append, List.append_assoc, List.map_cons, List.map_nil]
      · rintro H3 ⟨hL3, S3⟩
        rw [List.length_map, List.take_length] at hL3
        rw [← fl] at hL3
        exact ⟨hL3, S3⟩
    rintro H2 ⟨hL2, S2⟩
    rw [lx, List.take_length] at hL2
    have tw2 : Two (LsS H2) xs gs := tw1.mono fun _ _ ⟨r, e, h⟩ => ⟨r, e, S2 _ _ h⟩
    have hD2 := S2 _ _ hD1
    have hb2 := S2 _ _ (S1 _ _ hb)
    -- the first test
    refine ⟨_, rfl, D, _, rfl, .inl (SqL.of hD2), rfl, _, rfl, ?_⟩
    have l0 : 0 < gs.length := List.length_pos_iff.mpr n0
    rw [decide_eq_false (fun e : V.int _ = V.int _ => by have := V.int.inj e; omega)]
    refine iteF ⟨_, rfl, D, rfl, ⟨_, SqL.of hD2⟩, fun M hM => ?_⟩
    refine lc_list (a := D) (xs := xs) (fun i H3 => H3 M = some (.lst ((List.replicate i true).map V.bl)) ∧ Same H2 H3) ⟨upd_same, same_new hM⟩ ?_ ?_ ?_
    · rintro i H3 _ ⟨_, S3⟩
      exact S3.seq (SqL.of hD2)
    · rintro i x H3 hx ⟨hM3, S3⟩
      obtain ⟨g, hg, q, rfl, hq⟩ := tw2.get hx
      have il : i < xs.length := (List.getElem?_eq_some_iff.mp hx).1
      refine ⟨rfl, _, rfl, q, _, rfl, .inl (SqL.of (S3 _ _ hq)), _, _, rfl, rfl, _, hM3, by rw [List.length_map, List.length_replicate]; show i < 16777216; omega, ?_, keepD hM S3 (Same.refl _)⟩
      have gp : 0 < g.length := List.length_pos_iff.mpr (ne g (List.mem_of_getElem? hg))
      have e : decide ((0 : Int) < (((g.map V.str).length : Nat) : Int)) = true := decide_eq_true (by rw [List.length_map]; omega)
      rw [upd_same]
      show some (HO.lst (List.map V.bl (List.replicate i true) ++ [V.bl (decide ((0 : Int) < (((g.map V.str).length : Nat) : Int)))])) = _
      rw [e, List.replicate_succ', List.map_append]
      rfl
    rintro H3 ⟨hM3, S3⟩
    refine ⟨M, _, rfl, SqL.of hM3, _, rfl, ?_⟩
    rw [show ((List.replicate xs.length true).all id) = true by simp]
    refine iteF ?_
    -- the second test
    have hL3 := S3 _ _ hL2
    have hb3 := S3 _ _ hb2
    have hD3 := S3 _ _ hD2
    refine ⟨_, rfl, L, rfl, ⟨_, SqL.of hL3⟩, fun N hN => ?_⟩
    refine lc_list (a := L) (xs := gs.flatten.map V.str) (fun i H4 => H4 N = some (.lst ((List.replicate i true).map V.bl)) ∧ Same H3 H4) ⟨upd_same, same_new hN⟩ ?_ ?_ ?_
    · rintro i H4 _ ⟨_, S4⟩
      exact S4.seq (SqL.of hL3)
    · rintro i x H4 hx ⟨hN4, S4⟩
      have il : i < gs.flatten.length := by
        have := (List.getElem?_eq_some_iff.mp hx).1
        rw [List.length_map] at this
        exact this
      have ex : x = .str gs.flatten[i] := by
        rw [List.getElem?_map, List.getElem?_eq_getElem il] at hx
        exact (Option.some.inj hx).symm
      subst ex
      have zm : gs.flatten[i] ∈ gs.flatten := List.getElem_mem il
      have zo : gs.flatten[i] ∈ os := pm.mem_iff.mp zm
      refine ⟨rfl, _, rfl, _, rfl, b, _, rfl, .inl (SqL.of (S4 _ _ hb3)), rfl, flat_strs _, ?_⟩
      show ∃ c, V.bl (inV (.str gs.flatten[i]) (os.map V.str)) = .bl c ∧ _
      rw [in_strs, decide_eq_true zo]
      refine ⟨_, rfl, iteT ?_⟩
      refine ⟨_, rfl, .inl ⟨rfl, _, SqL.of (S4 _ _ hL3)⟩, _, rfl, L, gs.flatten, _, rfl, rfl, SqL.of (S4 _ _ hL3), rfl, _, hN4, ?_, ?_, keepD hN S4 (Same.refl _)⟩
      · rw [List.length_map, List.length_replicate]
        have := pm.length_eq
        show i < 16777216
        omega
      · have c1 : gs.flatten.count gs.flatten[i] = 1 := by
          have h1 := List.nodup_iff_count.mp (pm.nodup_iff.mpr nd) gs.flatten[i]
          have h2 := List.count_pos_iff.mpr zm
          omega
        rw [upd_same]
        show some (HO.lst (List.map V.bl (List.replicate i true) ++ [V.bl (decide (V.int ((gs.flatten.count gs.flatten[i] : Nat) : Int) = V.int 1))])) = _
        rw [c1, List.replicate_succ', List.map_append]
        rfl
    rintro H4 ⟨hN4, S4⟩
    refine ⟨N, _, rfl, SqL.of hN4, _, rfl, ?_⟩
    rw [show ((List.replicate (gs.flatten.map V.str).length true).all id) = true by simp]
    refine iteF ?_
    -- missing
    have hL4 := S4 _ _ hL3
    have hb4 := S4 _ _ hb3
    have hD4 := S4 _ _ hD3
    refine ⟨_, rfl, b, rfl, ⟨_, SqL.of hb4⟩, fun U hU => ?_⟩
    refine lc_list (a := b) (xs := os.map V.str) (fun i H5 => H5 U = some (.lst []) ∧ Same H4 H5) ⟨upd_same, same_new hU⟩ ?_ ?_ ?_
    · rintro i H5 _ ⟨_, S5⟩
      exact S5.seq (SqL.of hb4)
    · rintro i x H5 hx ⟨hU5, S5⟩
      have il : i < os.length := by
        have := (List.getElem?_eq_some_iff.mp hx).1
        rw [List.length_map] at this
        exact this
      have ex : x = .str os[i] := by
        rw [List.getElem?_map, List.getElem?_eq_getElem il] at hx
        exact (Option.some.inj hx).symm
      subst ex
      have zm : os[i] ∈ gs.flatten := pm.mem_iff.mpr (List.getElem_mem il)
      refine ⟨rfl, _, rfl, _, rfl, L, _, rfl, .inl (SqL.of (S5 _ _ hL4)), rfl, flat_strs _, ?_⟩
      show ∃ k, V.bl (!inV (.str os[i]) (gs.flatten.map V.str)) = .bl k ∧ _
      rw [in_strs, decide_eq_true zm]
      exact ⟨_, rfl, iteF ⟨hU5, S5⟩⟩
    rintro H5 ⟨hU5, S5⟩
    refine ⟨fun σ H6 => σ = [some (.ref p), some (.ref a), some (.ref b), some (.ref D), some (.ref L), some (.ref U), none, none, none, none] ∧ H6 = H5, ?_, ?_⟩
    · exact ⟨_, rfl, false, .inl ⟨_, SqL.of hU5, rfl⟩, iteF ⟨rfl, rfl⟩⟩
    rintro σ H6 ⟨rfl, rfl⟩
    have hU5' := hU5
    have hb5 := S5 _ _ hb4
    have hD5 := S5 _ _ hD4
    have tw5 : Two (LsS H6) xs gs := tw2.mono fun _ _ ⟨r, e, h⟩ => ⟨r, e, S5 _ _ (S4 _ _ (S3 _ _ h))⟩
    have S05 : Same H H6 := S1.trans (S2.trans (S3.trans (S4.trans S5)))
    have hp6 := S05 _ _ hp
    -- self.classes = ..
    refine ⟨_, rfl, D, rfl, ⟨_, SqL.of hD5⟩, fun Y hY => ?_⟩
    refine lc_list (a := D) (xs := xs) (fun i H7 => ∃ cs, H7 Y = some (.lst cs) ∧ Two (fun x g => x ≠ .ref Y ∧ TupS H7 x g) cs (clsOf os (gs.take i)) ∧ Same H6 H7) ⟨[], upd_same, .nil, same_new hY⟩ ?_ ?_ ?_
    · rintro i H7 _ ⟨_, _, _, S7⟩
      exact S7.seq (SqL.of hD5)
    · rintro i x H7 hx ⟨cs, hY7, tw7, S7⟩
      obtain ⟨g, hg, q, rfl, hq⟩ := tw5.get hx
      have il : i < xs.length := (List.getElem?_eq_some_iff.mp hx).1
      have lc := tw7.len
      unfold clsOf at lc
      rw [List.length_map, List.length_take] at lc
      refine ⟨rfl, _, rfl, b, rfl, ⟨_, SqL.of (S7 _ _ hb5)⟩, fun G hG => ?_⟩
      refine lc_list (a := b) (xs := os.map V.str) (fun j H8 => H8 G = some (.lst (((os.take j).filter fun z => decide (z ∈ g)).map V.str)) ∧ Same H7 H8) ⟨upd_same, same_new hG⟩ ?_ ?_ ?_
      · rintro j H8 _ ⟨_, S8⟩
        exact S8.seq (SqL.of (S7 _ _ hb5))
      · rintro j x H8 hx ⟨hG8, S8⟩
        have jl : j < os.length := by
          have := (List.getElem?_eq_some_iff.mp hx).1
          rw [List.length_map] at this
          exact this
        have ex : x = .str os[j] := by
          rw [List.getElem?_map, List.getElem?_eq_getElem jl] at hx
          exact (Option.some.inj hx).symm
        subst ex
        refine ⟨rfl, _, rfl, _, rfl, q, _, rfl, .inl (SqL.of (S8 _ _ (S7 _ _ hq))), rfl, flat_strs _, ?_⟩
        show ∃ k, V.bl (inV (.str os[j]) (g.map V.str)) = .bl k ∧ _
        rw [in_strs]
        refine ⟨_, rfl, ite2 (fun c => ?_) (fun c => ?_)⟩
        · refine ⟨_, rfl, _, hG8, ?_, ?_, keepD hG S8 (Same.refl _)⟩
          · rw [List.length_map]
            have := List.length_filter_le (fun z => decide (z ∈ g)) (os.take j)
            rw [List.length_take] at this
            show _ < 16777216
            omega
          · rw [upd_same, take_next (List.getElem?_eq_getElem jl), List.filter_append]
            simp only [List.filter_cons, List.filter_nil, c, if_true, List.map_append, List.map_cons, List.map_nil]
        · refine ⟨?_, S8⟩
          rw [take_next (List.getElem?_eq_getElem jl), List.filter_append]
          simp only [List.filter_cons, List.filter_nil, c, if_false, List.append_nil, Bool.false_eq_true]
          exact hG8
      rintro H8 ⟨hG8, S8⟩
      rw [List.length_map, List.take_length] at hG8
      refine ⟨G, _, rfl, .inl ⟨SqL.of hG8, fun l hl => ?_⟩⟩
      have Sl := S8.trans (same_new (o := .tup ((os.filter fun z => decide (z ∈ g)).map V.str)) hl)
      have lY : l ≠ Y := fun e => by rw [e, S8 _ _ hY7] at hl; cases hl
      refine ⟨cs, Sl _ _ hY7, by show cs.length < 16777216; omega, cs ++ [.ref l], upd_same, ?_, keepD hY S7 Sl⟩
      have ec : clsOf os (gs.take (i + 1)) = clsOf os (gs.take i) ++ [os.filter fun z => decide (z ∈ g)] := by
        unfold clsOf
        rw [take_next hg, List.map_append]
        rfl
      rw [ec]
      refine Two.snoc ⟨fun e => lY (by cases e; rfl), l, rfl, by rw [upd_ne lY]; exact upd_same⟩ (tw7.mono ?_)
      rintro x g ⟨n, r, rfl, h⟩
      refine ⟨n, r, rfl, ?_⟩
      rw [upd_ne (fun e => n (by rw [e]))]
      exact Sl _ _ h
    rintro H7 ⟨cs, hY7, tw7, S7⟩
    rw [lx, List.take_length] at tw7
    have lcs := tw7.len
    have lcl : (clsOf os gs).length = gs.length := by unfold clsOf; rw [List.length_map]
    refine ⟨Y, _, rfl, .inl ⟨SqL.of hY7, fun c hc => ?_⟩⟩
    have Sc := same_new (o := .tup cs) hc
    have hp8 := Sc _ _ (S7 _ _ hp6)
    refine ⟨_, rfl, p, C, dx, [], rfl, hp8, Z.cl, Z.n1, by show 0 < 1000; decide, ?_⟩
    -- self._ranks = {}
    intro r hr'
    have hpr : (upd (upd (upd H7 c (.tup cs)) p (.ins C dx (putF "classes" (.ref c) []))) r (.dK [])) p = some (.ins C dx (putF "classes" (.ref c) [])) := by rw [upd_ne (ne_of_none upd_same hr')]; exact upd_same
    refine ⟨_, rfl, p, C, dx, _, rfl, hpr, Z.cl, Z.n2, by show 1 < 1000; decide, ?_⟩
    have pr : p ≠ r := ne_of_none upd_same hr'
    have pc : p ≠ c := ne_of_none (S7 _ _ hp6) hc
    have cr : c ≠ r := ne_of_none (o := .tup cs) (by rw [upd_ne pc.symm]; exact upd_same) hr'
    have fne : ¬ (("classes" : Str) = "_ranks") := by decide +kernel
    have f1 : (putF "_ranks" (.ref r) (putF "classes" (.ref c) [])).lookup ("classes" : Str) = some (.ref c) := by
      rw [lookup_putF, if_neg fne, lookup_putF, if_pos rfl]
    have f2 : (putF "_ranks" (.ref r) (putF "classes" (.ref c) [])).lookup ("_ranks" : Str) = some (.ref r) := by
      rw [lookup_putF, if_pos rfl]
    have f3 : (putF "_ranks" (.ref r) (putF "classes" (.ref c) [])).lookup ("rank" : Str) = none := by
      rw [lookup_putF, if_neg (by decide +kernel), lookup_putF, if_neg (by decide +kernel)]
      rfl
    have f4 : (putF "_ranks" (.ref r) (putF "classes" (.ref c) [])).lookup ("above" : Str) = none := by
      rw [lookup_putF, if_neg (by decide +kernel), lookup_putF, if_neg (by decide +kernel)]
      rfl
    generalize putF "_ranks" (.ref r) (putF "classes" (.ref c) []) = fs at f1 f2 f3 f4
    have g0 : ∀ b o, H7 b = some o → b ≠ p → (upd (upd (upd (upd H7 c (.tup cs)) p (.ins C dx (putF "classes" (.ref c) []))) r (.dK [])) p (.ins C dx fs)) b = some o := fun b o h n => by
      have n2 : b ≠ c := ne_of_none h hc
      have n3 : b ≠ r := ne_of_none (o := o) (by rw [upd_ne n, upd_ne n2]; exact h) hr'
      rw [upd_ne n, upd_ne n3, upd_ne n, upd_ne n2]
      exact h
    have g1 : (upd (upd (upd (upd H7 c (.tup cs)) p (.ins C dx (putF "classes" (.ref c) []))) r (.dK [])) p (.ins C dx fs)) p = some (.ins C dx fs) := upd_same
    have g2 : (upd (upd (upd (upd H7 c (.tup cs)) p (.ins C dx (putF "classes" (.ref c) []))) r (.dK [])) p (.ins C dx fs)) c = some (.tup cs) := by rw [upd_ne pc.symm, upd_ne cr, upd_ne pc.symm]; exact upd_same
    have g3 : (upd (upd (upd (upd H7 c (.tup cs)) p (.ins C dx (putF "classes" (.ref c) []))) r (.dK [])) p (.ins C dx fs)) r = some (.dK []) := by rw [upd_ne pr.symm]; exact upd_same
    have nr : ∀ b o, H b = some o → b ≠ p → b ≠ r := fun b o h n => by
      have h7 := S7 _ _ (S05 _ _ h)
      have n2 : b ≠ c := ne_of_none h7 hc
      exact ne_of_none (o := o) (by rw [upd_ne n, upd_ne n2]; exact h7) hr'
    have tw9 : Two (fun x g => (∃ q, x = .ref q ∧ q ≠ r) ∧ TupS (upd (upd (upd (upd H7 c (.tup cs)) p (.ins C dx (putF "classes" (.ref c) []))) r (.dK [])) p (.ins C dx fs)) x g) cs (clsOf os gs) := tw7.mono fun x g ⟨_, q, e, h⟩ => by
      subst e
      have n : q ≠ p := fun e => by
        rw [e, S7 _ _ hp6] at h
        cases h
      have n2 : q ≠ c := ne_of_none h hc
      exact ⟨⟨q, rfl, ne_of_none (o := .tup (g.map V.str)) (by rw [upd_ne n, upd_ne n2]; exact h) hr'⟩, q, rfl, g0 _ _ h n⟩
    generalize upd (upd (upd (upd H7 c (.tup cs)) p (.ins C dx (putF "classes" (.ref c) []))) r (.dK [])) p (.ins C dx fs) = H9 at g0 g1 g2 g3 tw9 ⊢
    have nd' : gs.flatten.Nodup := pm.nodup_iff.mpr nd
    refine ⟨_, rfl, p, C, dx, fs, .ref c, rfl, g1, Z.cl, Z.n1, f1, c, cs, rfl, SqT.of g2, ?_⟩
    refine Ce.for_enumT (a := c) (xs := cs) (fun i σ H' => ∃ (v6 v7 v8 : Option V) (kvs : List (Key × V)), σ = [some (.ref p), some (.ref a), some (.ref b), some (.ref D), some (.ref L), some (.ref U), v6, v7, v8, none] ∧ H' r = some (.dK kvs) ∧
        (∀ z, z ∈ (clsOf os (gs.take i)).flatten → valV kvs (.inr z) = some (.int (rk gs z))) ∧ kvs.length ≤ i * 100 ∧ ∀ b o, H9 b = some o → b ≠ r → H' b = some o)
      ⟨none, none, none, [], rfl, g3, (fun _ h => by cases h), Nat.zero_le _, fun _ _ h _ => h⟩ ?_ ?_ ?_
    · rintro i σ H' _ ⟨_, _, _, _, _, _, _, _, kp⟩
      exact SqT.of (kp _ _ g2 cr)
    · rintro i x σ H' Tn hx ⟨v6, v7, v8, kvs, rfl, hr9, rk9, lk, kp⟩ hT
      obtain ⟨ys, hys, ⟨q', eq', qr⟩, q, rfl, hq⟩ := tw9.get hx
      have eqq : q = q' := by cases eq'; rfl
      subst eqq
      have il : i < cs.length := (List.getElem?_eq_some_iff.mp hx).1
      obtain ⟨g, hg⟩ : ∃ g, gs[i]? = some g := ⟨gs[i]'(by omega), List.getElem?_eq_getElem (by omega)⟩
      have eys : ys = os.filter fun z => decide (z ∈ g) := by
        unfold clsOf at hys
        rw [List.getElem?_map, hg] at hys
        exact (Option.some.inj hys).symm
      have ly : ys.length ≤ 100 := by
        have := List.length_filter_le (fun z => decide (z ∈ g)) os
        rw [eys]
        omega
      have fl : (clsOf os (gs.take (i + 1))).flatten = (clsOf os (gs.take i)).flatten ++ ys := by
        unfold clsOf
        rw [take_next hg, List.map_append, List.flatten_append, eys]
        simp
      have ST := same_new (o := .tup [.int (i : Nat), .ref q]) hT
      refine ⟨Tn, _, rfl, SqT.of upd_same, rfl, _, _, rfl, _, _, rfl, rfl, .inr ⟨_, rfl, q, rfl, ⟨_, SqT.of (ST _ _ (kp _ _ hq qr))⟩, ?_⟩⟩
      refine for_sq (K := K) (a := q) (xs := ys.map V.str) (J := Itt K q) (fun t σ H' => ∃ (v8 : Option V) (kvs : List (Key × V)), σ = [some (.ref p), some (.ref a), some (.ref b), some (.ref D), some (.ref L), some (.ref U), some (.int (i : Nat)), some (.ref q), v8, none] ∧ H' r = some (.dK kvs) ∧
          (∀ z, z ∈ (clsOf os (gs.take i)).flatten ++ ys.take t → valV kvs (.inr z) = some (.int (rk gs z))) ∧ kvs.length ≤ i * 100 + t ∧ ∀ b o, H9 b = some o → b ≠ r → H' b = some o)
        ⟨v8, kvs, rfl, ST _ _ hr9, (fun z h => rk9 z (by simpa using h)), lk, fun b o h n => ST _ _ (kp b o h n)⟩ ?_ ?_ ?_
      · rintro t σ H' _ ⟨_, _, _, _, _, _, kp⟩
        exact .inr ⟨rfl, SqT.of (kp _ _ hq qr)⟩
      · rintro t x σ H' hx ⟨v8, kvs, rfl, hr9, rk9, lk, kp⟩
        have tl : t < ys.length := by
          have := (List.getElem?_eq_some_iff.mp hx).1
          rw [List.length_map] at this
          exact this
        have ex : x = .str ys[t] := by
          rw [List.getElem?_map, List.getElem?_eq_getElem tl] at hx
          exact (Option.some.inj hx).symm
        subst ex
        have hp9 := kp _ _ g1 pr
        have ib : i * 100 ≤ 100 * 100 := Nat.mul_le_mul_right _ (by omega)
        refine ⟨_, rfl, p, C, dx, fs, .ref c, rfl, hp9, Z.cl, Z.n1, f1, c, cs, rfl, .inr (SqT.of (kp _ _ g2 cr)), _, _, rfl, rfl, _, rfl, _, _, rfl, rfl, _, rfl, p, C, dx, fs, .ref r, rfl, hp9, Z.cl, Z.n2, f2, _, rfl, r, _, rfl, .inl ⟨kvs, .inr ys[t], hr9, rfl, by show kvs.length < 16777216; omega, rfl⟩, ?_⟩
        refine ⟨_, _, rfl, upd_same, ?_, Nat.le_trans (putK_len _ _ _) (by omega), fun b o h n => by rw [upd_ne n]; exact kp b o h n⟩
        intro z hz
        rw [valV_put]
        by_cases e : (.inr z : Key) = .inr ys[t]
        · rw [if_pos e]
          have e' : z = ys[t] := Sum.inr.inj e
          subst e'
          have zg : ys[t] ∈ g := by
            have h1 : ys[t] ∈ os.filter fun z => decide (z ∈ g) := by rw [← eys]; exact List.getElem_mem tl
            exact of_decide_eq_true (List.mem_filter.mp h1).2
          have := place_at nd' hg zg
          unfold rk
          rw [this, ← lcl, ← lcs]
        · rw [if_neg e]
          refine rk9 z ?_
          rw [take_next (List.getElem?_eq_getElem tl), ← List.append_assoc] at hz
          rcases List.mem_append.mp hz with h | h
          · exact h
          · exact absurd (by simpa using h) (fun q : z = ys[t] => e (by rw [q]))
      · rintro σ H' ⟨v8, kvs, rfl, hr9, rk9, lk, kp⟩
        rw [List.length_map] at rk9 lk
        rw [List.take_length, ← fl] at rk9
        exact ⟨_, _, v8, kvs, rfl, hr9, rk9, by rw [Nat.add_mul]; omega, kp⟩
    · rintro σ H' ⟨v6, v7, v8, kvs, rfl, hr9, rk9, lk, kp⟩
      rw [lcs, lcl, List.take_length] at rk9
      have rn : H r = none := by
        cases q : H r with
        | none => rfl
        | some o => exact absurd rfl (nr r o q pr.symm)
      refine k H' r ⟨dx, fs, kvs, kp _ _ g1 pr, f2, hr9, fun z hz => ?_, f3, f4⟩ rn fun b o h n => ?_
      · obtain ⟨g, hg, zg⟩ := List.mem_flatten.mp hz
        refine rk9 z (List.mem_flatten.mpr ⟨os.filter fun z => decide (z ∈ g), List.mem_map.mpr ⟨g, hg, rfl⟩, List.mem_filter.mpr ⟨pm.mem_iff.mp hz, decide_eq_true zg⟩⟩)
      · exact kp b o (g0 b o (S7 _ _ (S05 _ _ h)) n) (nr b o h n)
end Bq
set_option Elab.async false
set_option linter.all false
set_option maxRecDepth 100000
set_option maxHeartbeats 4000000
namespace Bq
open PySem L2 Cw
variable {P : Program} {w : World} {K : PySem.W.Frag} {mg : Str → Option Value} {base : Heap}
/-- a method that stands -/
structure Mt (P : Program) (w : World) (K : PySem.W.Frag) (mg : Str → Option Value) (base : Heap) (k : Nat) (C : Addr) (x : Str) (ps : List Str) (sp : Sp) where
  f : Addr
  fd : FuncData
  ok : FnOk P w K mg base CX0 k f fd ps sp
  m : Meth K C x f
  bd : Binds K fd ps []
def spRank (C : Addr) : Sp := fun vs H Q _ => ∃ (p : Addr) (z : Str) (gs : List (List Str)), vs = [.ref p, .str z] ∧ TasteAt C H p gs ∧ z ∈ gs.flatten ∧ Q (.int (rk gs z)) H
abbrev sTaste_rank : Stmt := inClass (top 19) 1
abbrev nTaste_rank : List Str := ["self", "outcome"]
theorem scTaste_rank : FnScope nTaste_rank ["self", "outcome"] (defScope sTaste_rank) := ⟨rfl, rfl, rfl, by decide +kernel, rfl, by decide +kernel, by decide +kernel⟩
theorem ok_rank {C : Addr} {f : Addr} {fd : FuncData} (F : Fun K "rank" "Taste.rank" sTaste_rank f fd) (T : Bt mg) (Z : Tx K C) : FnOk P w K mg base CX0 1 f fd ["self", "outcome"] (spRank C) := by
  refine F.ok scTaste_rank (fun vs H Q E h => ?_) (fun cdv A outer s H vs Q E hr h => ?_)
  · obtain ⟨p, z, gs, rfl, _⟩ := h
    rfl
  · obtain ⟨p, z, gs, rfl, ⟨r, dx, fs, kvs, hp, f2, hr9, rk9, _, _⟩, hz, k⟩ := h
    have hu : (A.deeper (PyProof.Rows.envOfC (Str.ofString "Taste.rank") (defScope sTaste_rank) s.heap.objs.size f cdv)).units + 1 < cLine := by have := hr.units; omega
    refine ⟨_, (pss_cons (ps_if (pt_cmp (pc_dnotin hu (pv 1) (fld (K := K) (pv 0)))) pss_never pss_nil)
      (pss_one (ps_ret (pe_dget hu (fld (K := K) (pv 0)) (pv 1) (fun _ _ => rfl))))), ?_⟩
    refine ⟨_, rfl, _, rfl, p, C, dx, fs, .ref r, rfl, hp, Z.cl, Z.n2, f2, r, some (.int (rk gs z)), rfl, .inl ⟨kvs, .inr z, .inl hr9, rfl, (rk9 z hz).symm⟩, _, rfl, iteF ?_⟩
    exact ⟨_, rfl, p, C, dx, fs, .ref r, rfl, hp, Z.cl, Z.n2, f2, _, rfl, r, .int (rk gs z), rfl, .inl ⟨kvs, .inr z, .inl hr9, rfl, (rk9 z hz).symm⟩, k⟩
def spAbove (C : Addr) : Sp := fun vs H Q _ => ∃ (p : Addr) (d c : Str) (gs : List (List Str)), vs = [.ref p, .str d, .str c] ∧ TasteAt C H p gs ∧ d ∈ gs.flatten ∧ c ∈ gs.flatten ∧ Q (.bl (decide (rk gs c < rk gs d))) H
abbrev sTaste_above : Stmt := inClass (top 19) 2
abbrev nTaste_above : List Str := ["self", "d", "c"]
theorem scTaste_above : FnScope nTaste_above ["self", "d", "c"] (defScope sTaste_above) := ⟨rfl, rfl, rfl, by decide +kernel, rfl, by decide +kernel, by decide +kernel⟩
theorem ok_above {C : Addr} {f : Addr} {fd : FuncData} (F : Fun K "above" "Taste.above" sTaste_above f fd) (Z : Tx K C) (Mrank : Mt P w K mg base 1 C "rank" ["self", "outcome"] (spRank C)) : FnOk P w K mg base CX0 2 f fd ["self", "d", "c"] (spAbove C) := by
  refine F.ok scTaste_above (fun vs H Q E h => ?_) (fun cdv A outer s H vs Q E hr h => ?_)
  · obtain ⟨p, d, c, gs, rfl, _⟩ := h
    rfl
  · obtain ⟨p, d, c, gs, rfl, tt, hd, hc, k⟩ := h
    refine ⟨_, (pss_one (ps_ret (pe_cmpR op_gt (pe_meth (pv 0) Z.cl Mrank.m Mrank.ok (hr.mono (by omega)) Mrank.bd .nil pass0 (pa_cons (pv 1) pa_nil)) (pe_meth (pv 0) Z.cl Mrank.m Mrank.ok (hr.mono (by omega)) Mrank.bd .nil pass0 (pa_cons (pv 2) pa_nil)) (nomark _)))), ?_⟩
    obtain ⟨r, dx, fs, kvs, hp, f2, hr9, rk9, f3, f4⟩ := id tt
    exact ⟨_, rfl, p, dx, fs, rfl, hp, f3, _, rfl, p, d, gs, rfl, tt, hd, _, rfl, p, dx, fs, rfl, hp, f3, _, rfl, p, c, gs, rfl, tt, hc, _, _, rfl, rfl, k⟩
/-! ### prefers -/
inductive Wy | one (k : Str) | hd (y : Str) | fr (n : Int)
def Wy.vs : Wy → List V
  | .one k => [.str k]
  | .hd y => [.str "head", .str y]
  | .fr n => [.str "far", .int n]
def ups (ms : List Str) (r : Str → Str → Int) (g b : Str) : Nat := (ms.filter fun o => decide (r o b < r o g)).length
def downs (ms : List Str) (r : Str → Str → Int) (g b : Str) : Nat := (ms.filter fun o => decide (r o g < r o b)).length
def prf (wy : Wy) (ms : List Str) (r : Str → Str → Int) (g b : Str) : Bool :=
  match wy with
  | .hd y => decide (r y b < r y g)
  | .fr n => ms.all fun o => decide (r o b + n ≤ r o g)
  | .one k => if k = "each" then decide (ups ms r g b = ms.length) else if k = "most" then decide (ms.length < 2 * ups ms r g b) else if k = "some" then decide (0 < ups ms r g b) && decide (downs ms r g b = 0) else false
theorem TasteAt.same {C p : Addr} {H H' : Hp} {gs : List (List Str)} (h : TasteAt C H p gs) (e : Same H H') : TasteAt C H' p gs := by
  obtain ⟨r, dx, fs, kvs, hp, f2, hr, q⟩ := h
  exact ⟨r, dx, fs, kvs, e _ _ hp, f2, e _ _ hr, q⟩
def Tasted (C : Addr) (H : Hp) (kvs : List (Key × V)) (G : Str → List (List Str)) (d c : Str) (o : Str) : Prop := ∃ p, valV kvs (.inr o) = some (.ref p) ∧ TasteAt C H p (G o) ∧ d ∈ (G o).flatten ∧ c ∈ (G o).flatten
def spPrefers (K : PySem.W.Frag) (C : Addr) : Sp := fun vs H Q _ => ∃ (m : Addr) (wy : Wy) (t : Addr) (kvs : List (Key × V)) (b : Addr) (ms : List Str) (d c : Str) (G : Str → List (List Str)), vs = [.ref m, .ref t, .ref b, .str d, .str c] ∧
  SqT K H m wy.vs ∧ (∀ k, wy = .one k → k ∈ plainW) ∧ H t = some (.dK kvs) ∧ Sq K H b (ms.map V.str) ∧ ms.length ≤ 100 ∧ (∀ o, o ∈ ms → Tasted C H kvs G d c o) ∧ (∀ y, wy = .hd y → y ∈ ms) ∧ ∀ H', Same H H' → Q (.bl (prf wy ms (fun o => rk (G o)) d c)) H'
abbrev sprefers : Stmt := top 18
abbrev nprefers : List Str := ["manner", "tastes", "members", "d", "c", "kind", "higher", "person"]
theorem scprefers : FnScope nprefers ["manner", "tastes", "members", "d", "c"] (defScope sprefers) := ⟨rfl, rfl, rfl, by decide +kernel, rfl, by decide +kernel, by decide +kernel⟩
theorem ok_prefers {C : Addr} {f : Addr} {fd : FuncData} (F : Fun K "prefers" "prefers" sprefers f fd) (T : Bt mg) (Z : Tx K C) (Mrank : Mt P w K mg base 1 C "rank" ["self", "outcome"] (spRank C)) (Mabove : Mt P w K mg base 2 C "above" ["self", "d", "c"] (spAbove C)) : FnOk P w K mg base CX0 3 f fd ["manner", "tastes", "members", "d", "c"] (spPrefers K C) := by
  refine F.ok scprefers (fun vs H Q E h => ?_) (fun cdv A outer s H vs Q E hr h => ?_)
  · obtain ⟨m, wy, t, kvs, b, ms, d, c, G, rfl, _⟩ := h
    rfl
  · obtain ⟨m, wy, t, kvs, b, ms, d, c, G, rfl, hm, hk, ht, hM, lm, ho, hy, k⟩ := h
    have hu : (A.deeper (PyProof.Rows.envOfC (Str.ofString "prefers") (defScope sprefers) s.heap.objs.size f cdv)).units + 1 < cLine := by have := hr.units; omega
    refine ⟨_, (pss_cons (ps_set (i := 5) scprefers.nd rfl (Or.inl rfl) (pe_ix (ixT (K := K)) (pv 0) pe_int (fun _ _ => rfl)))
      (pss_cons (ps_if (pt_cmpR op_eq (pv 5) pe_str (nomark _)) (pss_one (ps_ret (pe_meth (pe_dget hu (pv 1) (pe_ix (ixT (K := K)) (pv 0) pe_int (fun _ _ => rfl)) (fun _ _ => rfl)) Z.cl Mabove.m Mabove.ok (hr.mono (by omega)) Mabove.bd .nil pass0 (pa_cons (pv 3) (pa_cons (pv 4) pa_nil))))) pss_nil)
      (pss_cons (ps_if (pt_cmpR op_eq (pv 5) pe_str (nomark _)) (pss_one (ps_ret (pe_callB (cAll (K := K) rfl) rfl T.b_all T.o_all (pa_cons (pe_lc (own := [("person", 7)]) (g := gName 7) (tt := tYes) rfl scprefers.nd (PI.or (piL (K := K) (pv 2)) (piT (K := K) (pv 2))) (blkOk_by (own := [("person", 7)]) (N := nprefers) (sc := defScope sprefers) (by decide +kernel)) (fun _ _ _ _ _ => pg_name (i := 7) scprefers.nd rfl (Or.inl rfl)) (fun _ _ _ _ _ => pts_nil) (fun _ _ _ _ _ => (pe_cmpR op_ge (pe_meth (pe_dget hu (pv 1) (pv 7) (fun _ _ => rfl)) Z.cl Mrank.m Mrank.ok (hr.mono (by omega)) Mrank.bd .nil pass0 (pa_cons (pv 3) pa_nil)) (pe_op op_add (pe_meth (pe_dget hu (pv 1) (pv 7) (fun _ _ => rfl)) Z.cl Mrank.m Mrank.ok (hr.mono (by omega)) Mrank.bd .nil pass0 (pa_cons (pv 4) pa_nil)) (pe_ix (ixT (K := K)) (pv 0) pe_int (fun _ _ => rfl))) (nomark _)))) pa_nil)))) pss_nil)
      (pss_cons (ps_setLc (i := 6) (own := [("person", 7)]) (g := gName 7) rfl scprefers.nd rfl rfl (sw_true rfl rfl rfl (by decide +kernel)) (PI.or (piL (K := K) (pv 2)) (piT (K := K) (pv 2))) (blkOk_by (own := [("person", 7)]) (N := nprefers) (sc := defScope sprefers) (by decide +kernel)) (fun _ _ _ _ _ => pg_name (i := 7) scprefers.nd rfl (Or.inl rfl)) (fun _ _ _ _ _ => (pts_one (pt_val (pe_meth (pe_dget hu (pv 1) (pv 7) (fun _ _ => rfl)) Z.cl Mabove.m Mabove.ok (hr.mono (by omega)) Mabove.bd .nil pass0 (pa_cons (pv 3) (pa_cons (pv 4) pa_nil)))))) (fun _ _ _ _ _ => (pv 7)))
      (pss_cons (ps_if (pt_cmpR op_eq (pv 5) pe_str (nomark _)) (pss_one (ps_ret (pe_cmpR op_eq (pe_callB (cLen (K := K)) rfl T.b_len T.o_len (pa_cons (pv 6) pa_nil)) (pe_callB (cLen (K := K)) rfl T.b_len T.o_len (pa_cons (pv 2) pa_nil)) (nomark _)))) pss_nil)
      (pss_cons (ps_if (pt_cmpR op_eq (pv 5) pe_str (nomark _)) (pss_one (ps_ret (pe_cmpR op_gt (pe_op op_mul pe_int (pe_callB (cLen (K := K)) rfl T.b_len T.o_len (pa_cons (pv 6) pa_nil))) (pe_callB (cLen (K := K)) rfl T.b_len T.o_len (pa_cons (pv 2) pa_nil)) (nomark _)))) pss_nil)
      (pss_cons (ps_if (pt_cmpR op_eq (pv 5) pe_str (nomark _)) (pss_one (ps_ret (pe_and (pe_cmpR op_gt (pe_callB (cLen (K := K)) rfl T.b_len T.o_len (pa_cons (pv 6) pa_nil)) pe_int (nomark _)) (pe_one (pe_not (pe_callB (cAny (K := K) rfl) rfl T.b_any T.o_any (pa_cons (pe_lc (own := [("person", 7)]) (g := gName 7) (tt := tYes) rfl scprefers.nd (PI.or (piL (K := K) (pv 2)) (piT (K := K) (pv 2))) (blkOk_by (own := [("person", 7)]) (N := nprefers) (sc := defScope sprefers) (by decide +kernel)) (fun _ _ _ _ _ => pg_name (i := 7) scprefers.nd rfl (Or.inl rfl)) (fun _ _ _ _ _ => pts_nil) (fun _ _ _ _ _ => (pe_meth (pe_dget hu (pv 1) (pv 7) (fun _ _ => rfl)) Z.cl Mabove.m Mabove.ok (hr.mono (by omega)) Mabove.bd .nil pass0 (pa_cons (pv 4) (pa_cons (pv 3) pa_nil))))) pa_nil))))))) pss_nil)
      (pss_one (ps_ret pe_bl))))))))), ?_⟩
    have one : ∀ {H' : Hp} {o : Str}, Same H H' → o ∈ ms → ∃ p dx fs, valV kvs (.inr o) = some (.ref p) ∧ H' p = some (.ins C dx fs) ∧ fs.lookup ("rank" : Str) = none ∧ fs.lookup ("above" : Str) = none ∧ TasteAt C H' p (G o) ∧ d ∈ (G o).flatten ∧ c ∈ (G o).flatten := fun {H' o} e h => by
      obtain ⟨p, hv, tt, hd, hc⟩ := ho o h
      obtain ⟨r, dx, fs, kv, hp, f2, hr9, rk9, f3, f4⟩ := id (tt.same e)
      exact ⟨p, dx, fs, hv, hp, f3, f4, tt.same e, hd, hc⟩
    have get : ∀ {H' : Hp} {o : Str} {p : Addr}, Same H H' → valV kvs (.inr o) = some (.ref p) → DGet H' t (.str o) (some (.ref p)) := fun {H' o p} e h => .inl ⟨kvs, .inr o, .inl (e _ _ ht), rfl, h.symm⟩
    have sEq : ∀ (x y : Str), decide (V.str x = V.str y) = decide (x = y) := fun x y => by
      congr 1
      rw [V.str.injEq]
    have item : ∀ {i : Nat} {x : V}, (ms.map V.str)[i]? = some x → ∃ h : i < ms.length, x = .str ms[i] := fun {i x} hx => by
      have il : i < ms.length := by
        have := (List.getElem?_eq_some_iff.mp hx).1
        rw [List.length_map] at this
        exact this
      refine ⟨il, ?_⟩
      rw [List.getElem?_map, List.getElem?_eq_getElem il] at hx
      exact (Option.some.inj hx).symm
    have same := Same.refl H
    have sM : ∀ {H' : Hp}, Same H H' → Sq K H' b (ms.map V.str) := fun e => hM.elim (fun h => .inl (e.seq h)) (fun h => .inr (Same.sqT e h))
    cases wy with
    | hd y =>
      have ym := hy y rfl
      obtain ⟨p, dx, fs, hv, hp, f3, f4, tt, hd, hc⟩ := one same ym
      refine ⟨_, rfl, m, _, 0, .str "head", rfl, rfl, hm, atI_nat (j := 0) rfl, ?_⟩
      refine ⟨_, rfl, rfl, _, rfl, ?_⟩
      rw [sEq]
      refine iteT ⟨_, rfl, _, rfl, m, _, 1, .str y, rfl, rfl, hm, atI_nat (j := 1) rfl, t, .ref p, rfl, get same hv, p, dx, fs, rfl, hp, f4, _, rfl, _, rfl, p, d, c, G y, rfl, tt, hd, hc, ?_⟩
      exact k H same
    | fr n =>
      refine ⟨_, rfl, m, _, 0, .str "far", rfl, rfl, hm, atI_nat (j := 0) rfl, ?_⟩
      refine ⟨_, rfl, rfl, _, rfl, ?_⟩
      rw [sEq]
      refine iteF ⟨_, rfl, rfl, _, rfl, ?_⟩
      rw [sEq]
      refine iteT ?_
      refine or_seq rfl hM fun J hJ D hD => ?_
      refine lc_sq (K := K) (a := b) (xs := ms.map V.str) (J := J) (fun i H2 => H2 D = some (.lst (((ms.take i).map fun o => decide (rk (G o) c + n ≤ rk (G o) d)).map V.bl)) ∧ Same H H2) ⟨upd_same, same_new hD⟩ ?_ ?_ ?_
      · rintro i H2 _ ⟨_, S2⟩
        exact hJ.same S2
      · rintro i x H2 hx ⟨hD2, S2⟩
        obtain ⟨il, rfl⟩ := item hx
        obtain ⟨p, dx, fs, hv, hp, f3, f4, tt, hd, hc⟩ := one S2 (List.getElem_mem il)
        refine ⟨rfl, _, rfl, _, rfl, t, .ref p, rfl, get S2 hv, p, dx, fs, rfl, hp, f3, _, rfl, p, d, _, rfl, tt, hd, ?_⟩
        refine ⟨_, rfl, _, rfl, t, .ref p, rfl, get S2 hv, p, dx, fs, rfl, hp, f3, _, rfl, p, c, _, rfl, tt, hc, ?_⟩
        refine ⟨_, rfl, m, _, 1, .int n, rfl, rfl, Same.sqT S2 hm, atI_nat (j := 1) rfl, _, _, rfl, rfl, _, _, rfl, rfl, _, hD2, ?_, ?_, keepD hD S2 (Same.refl _)⟩
        · rw [List.length_map, List.length_map, List.length_take]
          show _ < 16777216
          omega
        · rw [upd_same, take_next (List.getElem?_eq_getElem il)]
          simp only [List.map_append, List.map_cons, List.map_nil]
      rintro H2 ⟨hD2, S2⟩
      rw [List.length_map, List.take_length] at hD2
      refine ⟨D, _, rfl, SqL.of hD2, ?_⟩
      have e : ((ms.map fun o => decide (rk (G o) c + n ≤ rk (G o) d)).all id) = prf (.fr n) ms (fun o => rk (G o)) d c := by
        unfold prf
        rw [List.all_map]
        rfl
      rw [e]
      exact k H2 S2
    | one kd =>
      have hk := hk kd rfl
      have n1 : kd ≠ "head" := fun e => by rw [e] at hk; exact absurd hk (by decide +kernel)
      have n2 : kd ≠ "far" := fun e => by rw [e] at hk; exact absurd hk (by decide +kernel)
      refine ⟨_, rfl, m, _, 0, .str kd, rfl, rfl, hm, atI_nat (j := 0) rfl, ?_⟩
      refine ⟨_, rfl, rfl, _, rfl, ?_⟩
      rw [sEq, decide_eq_false n1]
      refine iteF ⟨_, rfl, rfl, _, rfl, ?_⟩
      rw [sEq, decide_eq_false n2]
      refine iteF ?_
      refine or_seq rfl hM fun J hJ D hD => ?_
      refine lc_sq (K := K) (a := b) (xs := ms.map V.str) (J := J) (fun i H2 => H2 D = some (.lst (((ms.take i).filter fun o => decide (rk (G o) c < rk (G o) d)).map V.str)) ∧ Same H H2) ⟨upd_same, same_new hD⟩ ?_ ?_ ?_
      · rintro i H2 _ ⟨_, S2⟩
        exact hJ.same S2
      · rintro i x H2 hx ⟨hD2, S2⟩
        obtain ⟨il, rfl⟩ := item hx
        obtain ⟨p, dx, fs, hv, hp, f3, f4, tt, hd, hc⟩ := one S2 (List.getElem_mem il)
        refine ⟨rfl, _, rfl, _, rfl, t, .ref p, rfl, get S2 hv, p, dx, fs, rfl, hp, f4, _, rfl, _, rfl, p, d, c, _, rfl, tt, hd, hc, _, rfl, ?_⟩
        refine ite2 (fun q => ?_) (fun q => ?_)
        · refine ⟨_, rfl, _, hD2, ?_, ?_, keepD hD S2 (Same.refl _)⟩
          · rw [List.length_map]
            have := List.length_filter_le (fun o => decide (rk (G o) c < rk (G o) d)) (ms.take i)
            rw [List.length_take] at this
            show _ < 16777216
            omega
          · rw [upd_same, take_next (List.getElem?_eq_getElem il), List.filter_append]
            simp only [List.filter_cons, List.filter_nil, q, if_true, List.map_append, List.map_cons, List.map_nil]
        · refine ⟨?_, S2⟩
          rw [take_next (List.getElem?_eq_getElem il), List.filter_append]
          simp only [List.filter_cons, List.filter_nil, q, if_false, List.append_nil, Bool.false_eq_true]
          exact hD2
      rintro H2 ⟨hD2, S2⟩
      rw [List.length_map, List.take_length] at hD2
      have eu : (ms.filter fun o => decide (rk (G o) c < rk (G o) d)).length = ups ms (fun o => rk (G o)) d c := rfl
      have lu : (((ms.filter fun o => decide (rk (G o) c < rk (G o) d)).map V.str).length : Nat) = ups ms (fun o => rk (G o)) d c := by rw [List.length_map, eu]
      have lms : ((ms.map V.str).length : Nat) = ms.length := List.length_map _
      have out := k H2 S2
      unfold prf at out
      simp only at out
      refine ⟨_, rfl, rfl, _, rfl, ?_⟩
      rw [sEq]
      refine ite2 (fun qa => ?_) (fun qa => ?_)
      · rw [if_pos (of_decide_eq_true qa)] at out
        refine ⟨_, rfl, D, _, rfl, .inl (SqL.of hD2), _, rfl, b, _, rfl, sM S2, rfl, ?_⟩
        show Q (.bl (decide (V.int _ = V.int _))) H2
        rw [lu, lms]
        have e : decide (V.int (ups ms (fun o => rk (G o)) d c : Nat) = V.int (ms.length : Nat)) = decide (ups ms (fun o => rk (G o)) d c = ms.length) := by
          congr 1
          rw [V.int.injEq]
          exact propext ⟨fun h => by omega, fun h => by omega⟩
        rw [e]
        exact out
      rw [if_neg (fun h => qa (decide_eq_true h))] at out
      refine ⟨_, rfl, rfl, _, rfl, ?_⟩
      rw [sEq]
      refine ite2 (fun qb => ?_) (fun qb => ?_)
      · rw [if_pos (of_decide_eq_true qb)] at out
        refine ⟨_, rfl, D, _, rfl, .inl (SqL.of hD2), _, _, rfl, rfl, .inl ⟨by decide, by decide⟩, _, rfl, b, _, rfl, sM S2, _, _, rfl, rfl, ?_⟩
        show Q (.bl (decide ((((ms.map V.str).length : Nat) : Int) < 2 * (((ms.filter fun o => decide (rk (G o) c < rk (G o) d)).map V.str).length : Nat)))) H2
        rw [lu, lms]
        have e : decide (((ms.length : Nat) : Int) < 2 * (ups ms (fun o => rk (G o)) d c : Nat)) = decide (ms.length < 2 * ups ms (fun o => rk (G o)) d c) := by
          congr 1
          exact propext ⟨fun h => by omega, fun h => by omega⟩
        rw [e]
        exact out
      rw [if_neg (fun h => qb (decide_eq_true h))] at out
      refine ⟨_, rfl, rfl, _, rfl, ?_⟩
      rw [sEq]
      refine ite2 (fun qc => ?_) (fun qc => ?_)
      · rw [if_pos (of_decide_eq_true qc)] at out
        refine ⟨_, rfl, D, _, rfl, .inl (SqL.of hD2), _, _, rfl, rfl, ?_⟩
        show ∃ c', V.bl (decide ((0 : Int) < (((ms.filter fun o => decide (rk (G o) c < rk (G o) d)).map V.str).length : Nat))) = .bl c' ∧ _
        rw [lu]
        have e : decide ((0 : Int) < (ups ms (fun o => rk (G o)) d c : Nat)) = decide (0 < ups ms (fun o => rk (G o)) d c) := by
          congr 1
          exact propext ⟨fun h => by omega, fun h => by omega⟩
        rw [e]
        refine ⟨_, rfl, ite2 (fun q2 => ?_) (fun q2 => ?_)⟩
        · rw [q2] at out
          refine or_seq rfl (sM S2) fun J hJ E' hE => ?_
          refine lc_sq (K := K) (a := b) (xs := ms.map V.str) (J := J) (fun i H3 => H3 E' = some (.lst (((ms.take i).map fun o => decide (rk (G o) d < rk (G o) c)).map V.bl)) ∧ Same H2 H3) ⟨upd_same, same_new hE⟩ ?_ ?_ ?_
          · rintro i H3 _ ⟨_, S3⟩
            exact hJ.same S3
          · rintro i x H3 hx ⟨hE3, S3⟩
            obtain ⟨il, rfl⟩ := item hx
            obtain ⟨p, dx, fs, hv, hp, f3, f4, tt, hd, hc⟩ := one (S2.trans S3) (List.getElem_mem il)
            refine ⟨rfl, _, rfl, _, rfl, t, .ref p, rfl, get (S2.trans S3) hv, p, dx, fs, rfl, hp, f4, _, rfl, _, rfl, p, c, d, _, rfl, tt, hc, hd, _, hE3, ?_, ?_, keepD hE S3 (Same.refl _)⟩
            · rw [List.length_map, List.length_map, List.length_take]
              show _ < 16777216
              omega
            · rw [upd_same, take_next (List.getElem?_eq_getElem il)]
              simp only [List.map_append, List.map_cons, List.map_nil]
          rintro H3 ⟨hE3, S3⟩
          rw [List.length_map, List.take_length] at hE3
          refine ⟨E', _, rfl, SqL.of hE3, _, rfl, ?_⟩
          have out := k H3 (S2.trans S3)
          unfold prf at out
          simp only at out
          rw [if_neg (fun h => qa (decide_eq_true h)), if_neg (fun h => qb (decide_eq_true h)), if_pos (of_decide_eq_true qc), q2, Bool.true_and] at out
          have e : (!((ms.map fun o => decide (rk (G o) d < rk (G o) c)).any id)) = decide (downs ms (fun o => rk (G o)) d c = 0) := by
            unfold downs
            rw [Bool.eq_iff_iff, decide_eq_true_iff, List.length_eq_zero_iff, List.filter_eq_nil_iff]
            simp
          rw [e]
          exact out
        · have q3 : decide (0 < ups ms (fun o => rk (G o)) d c) = false := by simpa using q2
          rw [q3] at out
          exact out
      · rw [if_neg (fun h => qc (decide_eq_true h))] at out
        exact out
end Bq
set_option Elab.async false
set_option linter.all false
set_option maxRecDepth 100000
set_option maxHeartbeats 4000000
namespace Bq
open PySem L2 Cw
variable {P : Program} {w : World} {K : PySem.W.Frag} {mg : Str → Option Value} {base : Heap}
/-! ### _law_takes -/
def Ranked (H : Hp) (kvs : List (Key × V)) (G : Str → List (List Str)) (d c : Str) (o : Str) : Prop := ∃ q kv, valV kvs (.inr o) = some (.ref q) ∧ H q = some (.dK kv) ∧ Rk kv (G o) ∧ d ∈ (G o).flatten ∧ c ∈ (G o).flatten
def spTakes (K : PySem.W.Frag) : Sp := fun vs H Q _ => ∃ (m : Addr) (wy : Wy) (t : Addr) (kvs : List (Key × V)) (b : Addr) (ms : List Str) (d c : Str) (G : Str → List (List Str)), vs = [.ref m, .ref b, .ref t, .str c, .str d] ∧
  SqT K H m wy.vs ∧ (∀ k, wy = .one k → k ∈ plainW) ∧ H t = some (.dK kvs) ∧ SqT K H b (ms.map V.str) ∧ ms.length ≤ 100 ∧ (∀ o, o ∈ ms → Ranked H kvs G d c o) ∧ (∀ y, wy = .hd y → y ∈ ms) ∧ ∀ H', Same H H' → Q (.bl (prf wy ms (fun o => rk (G o)) d c)) H'
abbrev sL_takes : Stmt := top 35
abbrev nL_takes : List Str := ["way", "team", "ranks", "base", "goal", "ups", "downs", "one"]
theorem scL_takes : FnScope nL_takes ["way", "team", "ranks", "base", "goal"] (defScope sL_takes) := ⟨rfl, rfl, rfl, by decide +kernel, rfl, by decide +kernel, by decide +kernel⟩
theorem ok_takes {f : Addr} {fd : FuncData} (F : Fun K "_law_takes" "_law_takes" sL_takes f fd) (T : Bt mg) : FnOk P w K mg base CX0 1 f fd ["way", "team", "ranks", "base", "goal"] (spTakes K) := by
  refine F.ok scL_takes (fun vs H Q E h => ?_) (fun cdv A outer s H vs Q E hr h => ?_)
  · obtain ⟨m, wy, t, kvs, b, ms, d, c, G, rfl, _⟩ := h
    rfl
  · obtain ⟨m, wy, t, kvs, b, ms, d, c, G, rfl, hm, hk, ht, hM, lm, ho, hy, k⟩ := h
    have hu : (A.deeper (PyProof.Rows.envOfC (Str.ofString "_law_takes") (defScope sL_takes) s.heap.objs.size f cdv)).units + 1 < cLine := by have := hr.units; omega
    refine ⟨_, (pss_cons (ps_set (i := 5) scL_takes.nd rfl (Or.inl rfl) (pe_callB (cLen (K := K)) rfl T.b_len T.o_len (pa_cons (pe_lc (own := [("one", 7)]) (g := gName 7) rfl scL_takes.nd (piT (K := K) (pv 1)) (blkOk_by (own := [("one", 7)]) (N := nL_takes) (sc := defScope sL_takes) (by decide +kernel)) (fun _ _ _ _ _ => pg_name (i := 7) scL_takes.nd rfl (Or.inl rfl)) (fun _ _ _ _ _ => (pts_one (pt_cmpR op_gt (pe_dget hu (pe_dget hu (pv 2) (pv 7) (fun _ _ => rfl)) (pv 4) (fun _ _ => rfl)) (pe_dget hu (pe_dget hu (pv 2) (pv 7) (fun _ _ => rfl)) (pv 3) (fun _ _ => rfl)) (nomark _)))) (fun _ _ _ _ _ => pe_int)) pa_nil)))
      (pss_cons (ps_set (i := 6) scL_takes.nd rfl (Or.inl rfl) (pe_callB (cLen (K := K)) rfl T.b_len T.o_len (pa_cons (pe_lc (own := [("one", 7)]) (g := gName 7) rfl scL_takes.nd (piT (K := K) (pv 1)) (blkOk_by (own := [("one", 7)]) (N := nL_takes) (sc := defScope sL_takes) (by decide +kernel)) (fun _ _ _ _ _ => pg_name (i := 7) scL_takes.nd rfl (Or.inl rfl)) (fun _ _ _ _ _ => (pts_one (pt_cmpR op_lt (pe_dget hu (pe_dget hu (pv 2) (pv 7) (fun _ _ => rfl)) (pv 4) (fun _ _ => rfl)) (pe_dget hu (pe_dget hu (pv 2) (pv 7) (fun _ _ => rfl)) (pv 3) (fun _ _ => rfl)) (nomark _)))) (fun _ _ _ _ _ => pe_int)) pa_nil)))
      (pss_cons (ps_if (pt_cmpR op_eq (pe_ix (ixT (K := K)) (pv 0) pe_int (fun _ _ => rfl)) pe_str (nomark _)) (pss_one (ps_ret (pe_cmpR op_eq (pv 5) (pe_callB (cLen (K := K)) rfl T.b_len T.o_len (pa_cons (pv 1) pa_nil)) (nomark _)))) pss_nil)
      (pss_cons (ps_if (pt_cmpR op_eq (pe_ix (ixT (K := K)) (pv 0) pe_int (fun _ _ => rfl)) pe_str (nomark _)) (pss_one (ps_ret (pe_and (pe_cmpR op_eq (pv 6) pe_int (nomark _)) (pe_one (pe_cmpR op_gt (pv 5) pe_int (nomark _)))))) pss_nil)
      (pss_cons (ps_if (pt_cmpR op_eq (pe_ix (ixT (K := K)) (pv 0) pe_int (fun _ _ => rfl)) pe_str (nomark _)) (pss_one (ps_ret (pe_cmpR op_gt (pe_op op_mul pe_int (pv 5)) (pe_callB (cLen (K := K)) rfl T.b_len T.o_len (pa_cons (pv 1) pa_nil)) (nomark _)))) pss_nil)
      (pss_cons (ps_if (pt_cmpR op_eq (pe_ix (ixT (K := K)) (pv 0) pe_int (fun _ _ => rfl)) pe_str (nomark _)) (pss_one (ps_ret (pe_cmpR op_gt (pe_dget hu (pe_dget hu (pv 2) (pe_ix (ixT (K := K)) (pv 0) pe_int (fun _ _ => rfl)) (fun _ _ => rfl)) (pv 4) (fun _ _ => rfl)) (pe_dget hu (pe_dget hu (pv 2) (pe_ix (ixT (K := K)) (pv 0) pe_int (fun _ _ => rfl)) (fun _ _ => rfl)) (pv 3) (fun _ _ => rfl)) (nomark _)))) pss_nil)
      (pss_cons (ps_if (pt_cmpR op_eq (pe_ix (ixT (K := K)) (pv 0) pe_int (fun _ _ => rfl)) pe_str (nomark _)) (pss_one (ps_ret (pe_cmpR (oEqD (K := K) hr.units) (pe_lc (own := [("one", 7)]) (g := gName 7) rfl scL_takes.nd (piT (K := K) (pv 1)) (blkOk_by (own := [("one", 7)]) (N := nL_takes) (sc := defScope sL_takes) (by decide +kernel)) (fun _ _ _ _ _ => pg_name (i := 7) scL_takes.nd rfl (Or.inl rfl)) (fun _ _ _ _ _ => (pts_one (pt_cmpR op_lt (pe_dget hu (pe_dget hu (pv 2) (pv 7) (fun _ _ => rfl)) (pv 4) (fun _ _ => rfl)) (pe_op op_add (pe_dget hu (pe_dget hu (pv 2) (pv 7) (fun _ _ => rfl)) (pv 3) (fun _ _ => rfl)) (pe_ix (ixT (K := K)) (pv 0) pe_int (fun _ _ => rfl))) (nomark _)))) (fun _ _ _ _ _ => pe_int)) (pe_lst pa_nil) (nomark _)))) pss_nil)
      (pss_one (ps_ret pe_bl))))))))), ?_⟩
    have one : ∀ {H' : Hp} {o : Str}, Same H H' → o ∈ ms → ∃ q, DGet H' t (.str o) (some (.ref q)) ∧ DGet H' q (.str d) (some (.int (rk (G o) d))) ∧ DGet H' q (.str c) (some (.int (rk (G o) c))) := fun {H' o} e h => by
      obtain ⟨q, kv, hv, hq, hr, hd, hc⟩ := ho o h
      exact ⟨q, .inl ⟨kvs, .inr o, .inl (e _ _ ht), rfl, hv.symm⟩, .inl ⟨kv, .inr d, .inl (e _ _ hq), rfl, (hr d hd).symm⟩, .inl ⟨kv, .inr c, .inl (e _ _ hq), rfl, (hr c hc).symm⟩⟩
    have sEq : ∀ (x y : Str), decide (V.str x = V.str y) = decide (x = y) := fun x y => by
      congr 1
      rw [V.str.injEq]
    have item : ∀ {i : Nat} {x : V}, (ms.map V.str)[i]? = some x → ∃ h : i < ms.length, x = .str ms[i] := fun {i x} hx => by
      have il : i < ms.length := by
        have := (List.getElem?_eq_some_iff.mp hx).1
        rw [List.length_map] at this
        exact this
      refine ⟨il, ?_⟩
      rw [List.getElem?_map, List.getElem?_eq_getElem il] at hx
      exact (Option.some.inj hx).symm
    have same := Same.refl H
    have iEq : ∀ (x y : Nat), decide (V.int (x : Int) = V.int (y : Int)) = decide (x = y) := fun x y => by
      congr 1
      rw [V.int.injEq]
      exact propext ⟨fun h => by omega, fun h => by omega⟩
    -- ups
    refine ⟨_, rfl, b, rfl, ⟨_, hM⟩, fun D hD => ?_⟩
    refine lc_tup (K := K) (a := b) (xs := ms.map V.str) (fun i H2 => H2 D = some (.lst (((ms.take i).filter fun o => decide (rk (G o) c < rk (G o) d)).map fun _ => V.int 1)) ∧ Same H H2) ⟨upd_same, same_new hD⟩ ?_ ?_ ?_
    · rintro i H2 _ ⟨_, S2⟩
      exact Same.sqT S2 hM
    · rintro i x H2 hx ⟨hD2, S2⟩
      obtain ⟨il, rfl⟩ := item hx
      obtain ⟨q, g1, g2, g3⟩ := one S2 (List.getElem_mem il)
      refine ⟨rfl, _, rfl, _, rfl, t, .ref q, rfl, g1, _, rfl, q, _, rfl, g2, _, rfl, _, rfl, t, .ref q, rfl, g1, _, rfl, q, _, rfl, g3, _, _, rfl, rfl, _, rfl, ?_⟩
      refine ite2 (fun q => ?_) (fun q => ?_)
      · refine ⟨_, hD2, ?_, ?_, keepD hD S2 (Same.refl _)⟩
        · rw [List.length_map]
          have := List.length_filter_le (fun o => decide (rk (G o) c < rk (G o) d)) (ms.take i)
          rw [List.length_take] at this
          show _ < 16777216
          omega
        · rw [upd_same, take_next (List.getElem?_eq_getElem il), List.filter_append]
          simp only [List.filter_cons, List.filter_nil, q, if_true, List.map_append, List.map_cons, List.map_nil]
      · refine ⟨?_, S2⟩
        rw [take_next (List.getElem?_eq_getElem il), List.filter_append]
        simp only [List.filter_cons, List.filter_nil, q, if_false, List.append_nil, Bool.false_eq_true]
        exact hD2
    rintro H2 ⟨hD2, S2⟩
    rw [List.length_map, List.take_length] at hD2
    refine ⟨D, _, rfl, .inl (SqL.of hD2), ?_⟩
    rw [List.length_map]
    -- downs
    refine ⟨_, rfl, b, rfl, ⟨_, Same.sqT S2 hM⟩, fun E' hE => ?_⟩
    refine lc_tup (K := K) (a := b) (xs := ms.map V.str) (fun i H3 => H3 E' = some (.lst (((ms.take i).filter fun o => decide (rk (G o) d < rk (G o) c)).map fun _ => V.int 1)) ∧ Same H H3) ⟨upd_same, S2.trans (same_new hE)⟩ ?_ ?_ ?_
    · rintro i H3 _ ⟨_, S3⟩
      exact Same.sqT S3 hM
    · rintro i x H3 hx ⟨hE3, S3⟩
      obtain ⟨il, rfl⟩ := item hx
      obtain ⟨q, g1, g2, g3⟩ := one S3 (List.getElem_mem il)
      refine ⟨rfl, _, rfl, _, rfl, t, .ref q, rfl, g1, _, rfl, q, _, rfl, g2, _, rfl, _, rfl, t, .ref q, rfl, g1, _, rfl, q, _, rfl, g3, _, _, rfl, rfl, _, rfl, ?_⟩
      have kE : Same H (upd H3 E' (.lst (((ms.take i).filter fun o => decide (rk (G o) d < rk (G o) c)).map (fun _ => V.int 1) ++ [V.int 1]))) := fun bb u hb => by
        rw [upd_ne (ne_of_none (S2 _ _ hb) hE)]
        exact S3 _ _ hb
      refine ite2 (fun q => ?_) (fun q => ?_)
      · refine ⟨_, hE3, ?_, ?_, kE⟩
        · rw [List.length_map]
          have := List.length_filter_le (fun o => decide (rk (G o) d < rk (G o) c)) (ms.take i)
          rw [List.length_take] at this
          show _ < 16777216
          omega
        · rw [upd_same, take_next (List.getElem?_eq_getElem il), List.filter_append]
          simp only [List.filter_cons, List.filter_nil, q, if_true, List.map_append, List.map_cons, List.map_nil]
      · refine ⟨?_, S3⟩
        rw [take_next (List.getElem?_eq_getElem il), List.filter_append]
        simp only [List.filter_cons, List.filter_nil, q, if_false, List.append_nil, Bool.false_eq_true]
        exact hE3
    rintro H3 ⟨hE3, S3⟩
    rw [List.length_map, List.take_length] at hE3
    refine ⟨E', _, rfl, .inl (SqL.of hE3), ?_⟩
    rw [List.length_map]
    have hm3 := Same.sqT S3 hm
    have hM3 := Same.sqT S3 hM
    have out := k H3 S3
    have lms : ((ms.map V.str).length : Nat) = ms.length := List.length_map _
    cases wy with
    | hd y =>
      have ym := hy y rfl
      have at0 : atI (Wy.hd y).vs 0 = some (.str "head") := atI_nat (j := 0) rfl
      refine ⟨_, rfl, m, _, _, _, rfl, rfl, hm3, at0, rfl, _, rfl, ?_⟩
      rw [sEq]
      refine iteF ⟨_, rfl, m, _, _, _, rfl, rfl, hm3, at0, rfl, _, rfl, ?_⟩
      rw [sEq]
      refine iteF ⟨_, rfl, m, _, _, _, rfl, rfl, hm3, at0, rfl, _, rfl, ?_⟩
      rw [sEq]
      refine iteF ⟨_, rfl, m, _, _, _, rfl, rfl, hm3, at0, rfl, _, rfl, ?_⟩
      rw [sEq]
      have at1 : atI (Wy.hd y).vs 1 = some (.str y) := atI_nat (j := 1) rfl
      obtain ⟨q, g1, g2, g3⟩ := one S3 ym
      refine iteT ⟨_, rfl, _, rfl, m, _, _, _, rfl, rfl, hm3, at1, t, .ref q, rfl, g1, _, rfl, q, _, rfl, g2, _, rfl, _, rfl, m, _, _, _, rfl, rfl, hm3, at1, t, .ref q, rfl, g1, _, rfl, q, _, rfl, g3, _, _, rfl, rfl, ?_⟩
      exact out
    | fr n =>
      have at0 : atI (Wy.fr n).vs 0 = some (.str "far") := atI_nat (j := 0) rfl
      have at1 : atI (Wy.fr n).vs 1 = some (.int n) := atI_nat (j := 1) rfl
      refine ⟨_, rfl, m, _, _, _, rfl, rfl, hm3, at0, rfl, _, rfl, ?_⟩
      rw [sEq]
      refine iteF ⟨_, rfl, m, _, _, _, rfl, rfl, hm3, at0, rfl, _, rfl, ?_⟩
      rw [sEq]
      refine iteF ⟨_, rfl, m, _, _, _, rfl, rfl, hm3, at0, rfl, _, rfl, ?_⟩
      rw [sEq]
      refine iteF ⟨_, rfl, m, _, _, _, rfl, rfl, hm3, at0, rfl, _, rfl, ?_⟩
      rw [sEq]
      refine iteF ⟨_, rfl, m, _, _, _, rfl, rfl, hm3, at0, rfl, _, rfl, ?_⟩
      rw [sEq]
      refine iteT ?_
      refine ⟨_, rfl, b, rfl, ⟨_, hM3⟩, fun F' hF => ?_⟩
      refine lc_tup (K := K) (a := b) (xs := ms.map V.str) (fun i H4 => H4 F' = some (.lst (((ms.take i).filter fun o => decide (rk (G o) d < rk (G o) c + n)).map fun _ => V.int 1)) ∧ Same H3 H4) ⟨upd_same, same_new hF⟩ ?_ ?_ ?_
      · rintro i H4 _ ⟨_, S4⟩
        exact Same.sqT S4 hM3
      · rintro i x H4 hx ⟨hF4, S4⟩
        obtain ⟨il, rfl⟩ := item hx
        obtain ⟨q, g1, g2, g3⟩ := one (S3.trans S4) (List.getElem_mem il)
        refine ⟨rfl, _, rfl, _, rfl, t, .ref q, rfl, g1, _, rfl, q, _, rfl, g2, _, rfl, _, rfl, t, .ref q, rfl, g1, _, rfl, q, _, rfl, g3, _, rfl, m, _, _, _, rfl, rfl, Same.sqT S4 hm3, at1, _, _, rfl, rfl, _, _, rfl, rfl, _, rfl, ?_⟩
        refine ite2 (fun q => ?_) (fun q => ?_)
        · refine ⟨_, hF4, ?_, ?_, keepD hF S4 (Same.refl _)⟩
          · rw [List.length_map]
            have := List.length_filter_le (fun o => decide (rk (G o) d < rk (G o) c + n)) (ms.take i)
            rw [List.length_take] at this
            show _ < 16777216
            omega
          · rw [upd_same, take_next (List.getElem?_eq_getElem il), List.filter_append]
            simp only [List.filter_cons, List.filter_nil, q, if_true, List.map_append, List.map_cons, List.map_nil]
        · refine ⟨?_, S4⟩
          rw [take_next (List.getElem?_eq_getElem il), List.filter_append]
          simp only [List.filter_cons, List.filter_nil, q, if_false, List.append_nil, Bool.false_eq_true]
          exact hF4
      rintro H4 ⟨hF4, S4⟩
      rw [List.length_map, List.take_length] at hF4
      refine ⟨by show 0 ≤ sizeLine; decide, fun o ho' => ?_⟩
      have So := same_new (o := .lst []) ho'
      have er : ((ms.filter fun o => decide (rk (G o) d < rk (G o) c + n)).map fun _ => V.int 1) = (((ms.filter fun o => decide (rk (G o) d < rk (G o) c + n)).map fun _ => (1 : Int)).map V.int) := by rw [List.map_map]; rfl
      rw [er] at hF4
      refine ⟨.list (((ms.filter fun o => decide (rk (G o) d < rk (G o) c + n)).map fun _ => (1 : Int)).map .int), .list [], .lst (SqL.of (So _ _ hF4)) (dp_ints _), .lst (SqL.of upd_same) .nil, ?_, rfl, ?_⟩
      · unfold PySem.SeqAt.shaped
        rw [PyData.canLay0, ints_lay, PyData.depth, ints_deep]
        rfl
      · have e : PyData.eqv (.list (((ms.filter fun o => decide (rk (G o) d < rk (G o) c + n)).map fun _ => (1 : Int)).map .int)) (.list []) = prf (.fr n) ms (fun o => rk (G o)) d c := by
          have q : prf (.fr n) ms (fun o => rk (G o)) d c = (ms.filter fun o => decide (rk (G o) d < rk (G o) c + n)).isEmpty := by
            unfold prf
            rw [Bool.eq_iff_iff, List.isEmpty_iff, List.filter_eq_nil_iff, List.all_eq_true]
            exact ⟨fun h o ho => by have := of_decide_eq_true (h o ho); simp; omega, fun h o ho => decide_eq_true (by have := h o ho; simp at this; omega)⟩
          rw [q]
          cases ms.filter fun o => decide (rk (G o) d < rk (G o) c + n) <;> simp [PyData.eqv, PyData.eqvAll]
        rw [e]
        exact k _ (S3.trans (S4.trans So))
    | one kd =>
      have hk := hk kd rfl
      have n1 : kd ≠ "head" := fun e => by rw [e] at hk; exact absurd hk (by decide +kernel)
      have n2 : kd ≠ "far" := fun e => by rw [e] at hk; exact absurd hk (by decide +kernel)
      have at0 : atI (Wy.one kd).vs 0 = some (.str kd) := atI_nat (j := 0) rfl
      unfold prf at out
      simp only at out
      refine ⟨_, rfl, m, _, _, _, rfl, rfl, hm3, at0, rfl, _, rfl, ?_⟩
      rw [sEq]
      refine ite2 (fun qa => ?_) (fun qa => ?_)
      · rw [if_pos (of_decide_eq_true qa)] at out
        refine ⟨_, rfl, _, rfl, b, _, rfl, .inr hM3, rfl, ?_⟩
        rw [lms, iEq]
        exact out
      rw [if_neg (fun h => qa (decide_eq_true h))] at out
      refine ⟨_, rfl, m, _, _, _, rfl, rfl, hm3, at0, rfl, _, rfl, ?_⟩
      rw [sEq]
      refine ite2 (fun qb => ?_) (fun qb => ?_)
      · have eb : kd = "some" := of_decide_eq_true qb
        rw [if_neg (fun h => by rw [eb] at h; exact absurd h (by decide +kernel)), if_pos eb] at out
        refine ⟨_, rfl, rfl, ?_⟩
        show ∃ c', V.bl (decide (V.int (downs ms (fun o => rk (G o)) d c : Nat) = V.int ((0 : Nat) : Int))) = .bl c' ∧ _
        rw [iEq]
        refine ⟨_, rfl, ite2 (fun qc => ?_) (fun qc => ?_)⟩
        · refine ⟨_, rfl, _, _, rfl, rfl, ?_⟩
          rw [qc, Bool.and_true] at out
          show Q (.bl (decide ((0 : Int) < (ups ms (fun o => rk (G o)) d c : Nat)))) H3
          have e : decide ((0 : Int) < (ups ms (fun o => rk (G o)) d c : Nat)) = decide (0 < ups ms (fun o => rk (G o)) d c) := by
            congr 1
            exact propext ⟨fun h => by omega, fun h => by omega⟩
          rw [e]
          exact out
        · have q3 : decide (downs ms (fun o => rk (G o)) d c = 0) = false := by simpa using qc
          rw [q3, Bool.and_false] at out
          exact out
      refine ⟨_, rfl, m, _, _, _, rfl, rfl, hm3, at0, rfl, _, rfl, ?_⟩
      rw [sEq]
      refine ite2 (fun qc => ?_) (fun qc => ?_)
      · rw [if_pos (of_decide_eq_true qc)] at out
        refine ⟨_, rfl, _, _, rfl, rfl, .inl ⟨by decide, by decide⟩, _, rfl, b, _, rfl, .inr hM3, _, _, rfl, rfl, ?_⟩
        rw [lms]
        show Q (.bl (decide (((ms.length : Nat) : Int) < 2 * (ups ms (fun o => rk (G o)) d c : Nat)))) H3
        have e : decide (((ms.length : Nat) : Int) < 2 * (ups ms (fun o => rk (G o)) d c : Nat)) = decide (ms.length < 2 * ups ms (fun o => rk (G o)) d c) := by
          congr 1
          exact propext ⟨fun h => by omega, fun h => by omega⟩
        rw [e]
        exact out
      rw [if_neg (fun h => qc (decide_eq_true h)), if_neg (fun h => qb (decide_eq_true h))] at out
      refine ⟨_, rfl, m, _, _, _, rfl, rfl, hm3, at0, rfl, _, rfl, ?_⟩
      rw [sEq, decide_eq_false n1]
      refine iteF ⟨_, rfl, m, _, _, _, rfl, rfl, hm3, at0, rfl, _, rfl, ?_⟩
      rw [sEq, decide_eq_false n2]
      exact iteF out
end Bq
set_option Elab.async false
set_option linter.all false
set_option maxRecDepth 100000
set_option maxHeartbeats 4000000
namespace Bq
open PySem L2 Cw
variable {P : Program} {w : World} {K : PySem.W.Frag} {mg : Str → Option Value} {base : Heap}
/-! ### words that can be told -/
structure Gd (z : Str) : Prop where
  wk : Wk z.cps.toList
  len : z.length ≤ 3000
def plainC (c : Nat) : Bool := plainS c && !sp c
theorem wk_plain {l : List Nat} (n : l ≠ []) (h : l.all plainC = true) : Wk l := by
  have q : ∀ c, c ∈ l → plainS c = true ∧ sp c = false := fun c hc => by
    have := List.all_eq_true.mp h c hc
    unfold plainC at this
    simpa using this
  exact ⟨n, fun c hc => (q c hc).2, [], [], (fun _ h => by cases h), (fun _ h => by cases h), by rw [F4_id fun d hd => (q d hd).1]; simp⟩
theorem gd_of {z : Str} (h : (z.cps.toList.all plainC && !z.cps.toList.isEmpty && decide (z.length ≤ 3000)) = true) : Gd z := by
  simp only [Bool.and_eq_true, decide_eq_true_eq] at h
  exact ⟨wk_plain (fun e => by rw [e] at h; simp at h) h.1.1, h.2⟩
theorem alnum_plain : ∀ c, alnum c = true → plainC c = true := by
  have q : ∀ c, c < 123 → alnum c = true → plainC c = true := by decide +kernel
  intro c h
  refine q c ?_ h
  unfold alnum at h
  simp only [Bool.or_eq_true, Bool.and_eq_true, decide_eq_true_eq] at h
  omega
theorem Wd.gd {z : Str} (h : Wd z) (l : z.length ≤ 3000) : Gd z := by
  obtain ⟨c, r, e, lc, ar⟩ := h.ex
  refine ⟨wk_plain (by rw [e]; simp) ?_, l⟩
  rw [e, List.all_cons]
  have : alnum c = true := by
    unfold lower at lc
    unfold alnum
    simp only [Bool.and_eq_true, decide_eq_true_eq] at lc
    simp
    omega
  rw [alnum_plain c this, Bool.true_and]
  exact List.all_eq_true.mpr fun x hx => alnum_plain x (List.all_eq_true.mp ar x hx)
theorem gd_brace (c : Nat) (hc : c = 123 ∨ c = 40) : Gd ⟨#[c]⟩ := by
  rcases hc with rfl | rfl
  · exact ⟨⟨by simp, by decide +kernel, [32], [32], (fun c h => List.mem_singleton.mp h), (fun c h => List.mem_singleton.mp h), by decide +kernel⟩, by decide +kernel⟩
  · exact ⟨⟨by simp, by decide +kernel, [32], [32], (fun c h => List.mem_singleton.mp h), (fun c h => List.mem_singleton.mp h), by decide +kernel⟩, by decide +kernel⟩
def spWrong (K : PySem.W.Frag) : Sp := fun vs H Q _ => ∃ (j c a t : Addr) (fs ms : List Str), vs = [.ref j, .ref a, .ref t] ∧ Jar K H j c ∧ H a = some (.lst (fs.map V.str)) ∧ SqT K H t (ms.map V.str) ∧ 0 < ms.length ∧ ms.length ≤ 9 ∧ fs.length ≤ 9 ∧ (∀ z, z ∈ fs → Gd z) ∧ (∀ z, z ∈ ms → Gd z) ∧ ("Zed" : Str) ∉ ms ∧
  ∀ q ws H', LsS H' (.ref q) ws → ws.length ≤ 9 → mow ws ms = none → (∀ z, z ∈ ws → Gd z) → Jar K H' j c → But j H H' → Q (.ref q) H'
/-- a list of words that write no manner -/
def Bad (ms : List Str) (H : Hp) (x : V) : Prop := ∃ q ws, x = .ref q ∧ H q = some (.lst (ws.map V.str)) ∧ ws.length ≤ 9 ∧ mow ws ms = none ∧ ∀ z, z ∈ ws → Gd z
section
variable {j c : Addr} {ms : List Str} {σ0 : L2.St} {H1 : Hp}
theorem Bad.but {H H' : Hp} {x : V} (h : Bad ms H x) (J : Jar K H j c) (e : But j H H') : Bad ms H' x := by
  obtain ⟨q, ws, rfl, hq, r⟩ := h
  exact ⟨q, ws, rfl, e.lst J hq, r⟩
def BT (K : PySem.W.Frag) (j c : Addr) (ms : List Str) (σ0 : L2.St) (H1 : Hp) (te : TE) : Prop := ∀ H' R, Jar K H' j c → But j H1 H' → (∀ x H2, Jar K H2 j c → But j H' H2 → Bad ms H2 x → R x H2) → te σ0 H' R
def BA (K : PySem.W.Frag) (j c : Addr) (ms : List Str) (σ0 : L2.St) (H1 : Hp) (n : Nat) (ta : TA) : Prop := ∀ H' R, Jar K H' j c → But j H1 H' → (∀ xs H2, Jar K H2 j c → But j H' H2 → xs.length = n → (∀ x, x ∈ xs → Bad ms H2 x) → R xs H2) → ta σ0 H' R
theorem ba_nil : BA K j c ms σ0 H1 0 tNil := fun H' R J B h => h [] H' J But.refl rfl fun _ h => by cases h
theorem ba_cons {n : Nat} {te : TE} {ta : TA} (a : BT K j c ms σ0 H1 te) (b : BA K j c ms σ0 H1 n ta) : BA K j c ms σ0 H1 (n + 1) (tCons te ta) := fun H' R J B h =>
  a H' _ J B fun x H2 J2 B2 g => b H2 _ J2 (B.trans B2) fun xs H3 J3 B3 l hx => h (x :: xs) H3 J3 (B2.trans B3) (by rw [List.length_cons, l]) fun y hy => by
    rcases List.mem_cons.mp hy with rfl | hy
    · exact g.but J2 B3
    · exact hx y hy
theorem use_menu {n : Nat} {ta : TA} {rest : TS} {D : Ends} (h : BA K j c ms σ0 H1 n ta) (J1 : Jar K H1 j c) (hn : n ≤ sizeLine)
    (k : ∀ xs H2 p, Jar K H2 j c → But j H1 H2 → xs.length = n → (∀ x, x ∈ xs → Bad ms H2 x) → H2 p = none → rest D (σ0.set 4 (some (.ref p))) (upd H2 p (.lst xs))) : tSeq (tAsg (tLst ta) (gName 4)) rest D σ0 H1 :=
  h H1 _ J1 But.refl fun xs H2 J2 B2 l hx => ⟨by rw [l]; exact hn, fun p hp => k xs H2 p J2 B2 l hx hp⟩
theorem lit0 : BT K j c ms σ0 H1 (tLst tNil) := fun H' R J B h => ⟨by show 0 ≤ sizeLine; decide, fun p hp => h _ _ (J.new hp) (But.of (same_new hp)) ⟨p, [], rfl, upd_same, by decide, rfl, fun _ h => by cases h⟩⟩
theorem lit1 (x : Str) (m : x ∉ plainW := by decide +kernel) (gx : Gd x := by exact gd_of (by decide +kernel)) : BT K j c ms σ0 H1 (tLst (tCons (tC (.str x)) tNil)) := fun H' R J B h =>
  ⟨by show 1 ≤ sizeLine; decide, fun p hp => h _ _ (J.new hp) (But.of (same_new hp)) ⟨p, [x], rfl, upd_same, by show 1 ≤ 9; decide, by unfold mow; simp only; rw [if_neg m], fun z hz => by rw [List.mem_singleton.mp hz]; exact gx⟩⟩
theorem mow2 {x y : Str} (n1 : x ≠ "head" ∨ y ∉ ms) (n2 : ¬ (x = "far" ∧ y ∈ stepW)) : mow [x, y] ms = none := by
  unfold mow
  simp only
  rw [if_neg (fun h => n1.elim (fun n => n h.1) (fun n => n h.2)), if_neg n2]
theorem lit2 (x y : Str) (n1 : x ≠ "head" := by decide +kernel) (n2 : ¬ (x = "far" ∧ y ∈ stepW) := by decide +kernel) (gx : Gd x := by exact gd_of (by decide +kernel)) (gy : Gd y := by exact gd_of (by decide +kernel)) : BT K j c ms σ0 H1 (tLst (tCons (tC (.str x)) (tCons (tC (.str y)) tNil))) := fun H' R J B h =>
  ⟨by show 2 ≤ sizeLine; decide, fun p hp => h _ _ (J.new hp) (But.of (same_new hp)) ⟨p, [x, y], rfl, upd_same, by show 2 ≤ 9; decide, mow2 (.inl n1) n2, fun z hz => by
    simp only [List.mem_cons, List.not_mem_nil, or_false] at hz
    rcases hz with rfl | rfl
    · exact gx
    · exact gy⟩⟩
theorem lit3 (x y z : Str) (gx : Gd x := by exact gd_of (by decide +kernel)) (gy : Gd y := by exact gd_of (by decide +kernel)) (gz : Gd z := by exact gd_of (by decide +kernel)) : BT K j c ms σ0 H1 (tLst (tCons (tC (.str x)) (tCons (tC (.str y)) (tCons (tC (.str z)) tNil)))) := fun H' R J B h =>
  ⟨by show 3 ≤ sizeLine; decide, fun p hp => h _ _ (J.new hp) (But.of (same_new hp)) ⟨p, [x, y, z], rfl, upd_same, by show 3 ≤ 9; decide, rfl, fun u hu => by
    simp only [List.mem_cons, List.not_mem_nil, or_false] at hu
    rcases hu with rfl | rfl | rfl
    · exact gx
    · exact gy
    · exact gz⟩⟩
end
abbrev sL_wrong_words : Stmt := top 36
abbrev nL_wrong_words : List Str := ["jar", "folk", "team", "outside", "menu", "one"]
theorem scL_wrong_words : FnScope nL_wrong_words ["jar", "folk", "team"] (defScope sL_wrong_words) := ⟨rfl, rfl, rfl, by decide +kernel, rfl, by decide +kernel, by decide +kernel⟩
theorem ok_wrong {f : Addr} {fd : FuncData} (F : Fun K "_law_wrong_words" "_law_wrong_words" sL_wrong_words f fd) (T : Bt mg) (D_law_pick : Dn P w K mg base 2 "_law_pick" ["jar", "menu"] (spPick K)) : FnOk P w K mg base CX0 3 f fd ["jar", "folk", "team"] (spWrong K) := by
  refine F.ok scL_wrong_words (fun vs H Q E h => ?_) (fun cdv A outer s H vs Q E hr h => ?_)
  · obtain ⟨j, c, a, t, fs, ms, rfl, _⟩ := h
    rfl
  · obtain ⟨j, c, a, t, fs, ms, rfl, J, hA, hM, m0, m9, f9, gf, gm, nz, k⟩ := h
    refine ⟨_, (pss_cons (ps_set (i := 3) scL_wrong_words.nd rfl (Or.inl rfl) (pe_op op_cat (pe_lc (own := [("one", 5)]) (g := gName 5) rfl scL_wrong_words.nd (piL (K := K) (pv 1)) (blkOk_by (own := [("one", 5)]) (N := nL_wrong_words) (sc := defScope sL_wrong_words) (by decide +kernel)) (fun _ _ _ _ _ => pg_name (i := 5) scL_wrong_words.nd rfl (Or.inl rfl)) (fun _ _ _ _ _ => (pts_one (pt_cmpR (oNotIn (K := K)) (pv 5) (pv 2) rfl))) (fun _ _ _ _ _ => (pv 5))) (pe_lst (pa_cons pe_str pa_nil))))
      (pss_cons (ps_set (i := 4) scL_wrong_words.nd rfl (Or.inl rfl) (pe_lst (pa_cons (pe_lst pa_nil) (pa_cons (pe_lst (pa_cons pe_str pa_nil)) (pa_cons (pe_lst (pa_cons pe_str pa_nil)) (pa_cons (pe_lst (pa_cons pe_str (pa_cons pe_str pa_nil))) (pa_cons (pe_lst (pa_cons pe_str (pa_cons pe_str pa_nil))) (pa_cons (pe_lst (pa_cons pe_str (pa_cons (pe_call D_law_pick.ok (hr.mono (by omega)) rfl D_law_pick.mg D_law_pick.kp D_law_pick.bd .nil pass0 (pa_cons (pv 0) (pa_cons (pv 3) pa_nil))) pa_nil))) (pa_cons (pe_lst (pa_cons pe_str pa_nil)) (pa_cons (pe_lst (pa_cons pe_str (pa_cons pe_str pa_nil))) (pa_cons (pe_lst (pa_cons pe_str (pa_cons pe_str pa_nil))) (pa_cons (pe_lst (pa_cons pe_str (pa_cons pe_str pa_nil))) (pa_cons (pe_lst (pa_cons pe_str (pa_cons pe_str (pa_cons pe_str pa_nil)))) (pa_cons (pe_lst (pa_cons pe_str (pa_cons pe_str pa_nil))) (pa_cons (pe_lst (pa_cons pe_str (pa_cons (pe_ix (ixT (K := K)) (pv 2) pe_int (fun _ _ => rfl)) (pa_cons (pe_ix (ixT (K := K)) (pv 2) (pe_un un_neg pe_int) (fun _ _ => rfl)) pa_nil)))) (pa_cons (pe_lst (pa_cons pe_str (pa_cons pe_str pa_nil))) (pa_cons (pe_lst (pa_cons pe_str (pa_cons pe_str pa_nil))) (pa_cons (pe_lst (pa_cons pe_str pa_nil)) (pa_cons (pe_lst (pa_cons pe_str (pa_cons pe_str pa_nil))) (pa_cons (pe_lst (pa_cons pe_str pa_nil)) (pa_cons (pe_lst (pa_cons pe_str (pa_cons pe_str (pa_cons (pe_ix (ixT (K := K)) (pv 2) pe_int (fun _ _ => rfl)) pa_nil)))) (pa_cons (pe_lst (pa_cons pe_str pa_nil)) (pa_cons (pe_lst (pa_cons pe_str pa_nil)) (pa_cons (pe_lst (pa_cons pe_str pa_nil)) (pa_cons (pe_lst (pa_cons pe_str (pa_cons pe_str pa_nil))) (pa_cons (pe_lst (pa_cons pe_str (pa_cons pe_str pa_nil))) pa_nil))))))))))))))))))))))))))
      (pss_one (ps_ret (pe_call D_law_pick.ok (hr.mono (by omega)) rfl D_law_pick.mg D_law_pick.kp D_law_pick.bd .nil pass0 (pa_cons (pv 0) (pa_cons (pv 4) pa_nil))))))), ?_⟩
    refine ⟨_, rfl, a, rfl, ⟨_, SqL.of hA⟩, fun D hD => ?_⟩
    refine lc_list (a := a) (xs := fs.map V.str) (fun i H2 => H2 D = some (.lst (((fs.take i).filter fun o => !decide (o ∈ ms)).map V.str)) ∧ Same H H2) ⟨upd_same, same_new hD⟩ ?_ ?_ ?_
    · rintro i H2 _ ⟨_, S2⟩
      exact S2.seq (SqL.of hA)
    · rintro i x H2 hx ⟨hD2, S2⟩
      have il : i < fs.length := by
        have := (List.getElem?_eq_some_iff.mp hx).1
        rw [List.length_map] at this
        exact this
      have ex : x = .str fs[i] := by
        rw [List.getElem?_map, List.getElem?_eq_getElem il] at hx
        exact (Option.some.inj hx).symm
      subst ex
      refine ⟨rfl, _, rfl, _, rfl, t, _, rfl, .inr (Same.sqT S2 hM), rfl, flat_strs _, ?_⟩
      show ∃ k, V.bl (!inV (.str fs[i]) (ms.map V.str)) = .bl k ∧ _
      rw [in_strs]
      refine ⟨_, rfl, ite2 (fun q => ?_) (fun q => ?_)⟩
      · refine ⟨_, rfl, _, hD2, ?_, ?_, keepD hD S2 (Same.refl _)⟩
        · rw [List.length_map]
          have := List.length_filter_le (fun o => !decide (o ∈ ms)) (fs.take i)
          rw [List.length_take] at this
          show _ < 16777216
          omega
        · rw [upd_same, take_next (List.getElem?_eq_getElem il), List.filter_append]
          simp only [List.filter_cons, List.filter_nil, q, if_true, List.map_append, List.map_cons, List.map_nil]
      · refine ⟨?_, S2⟩
        rw [take_next (List.getElem?_eq_getElem il), List.filter_append]
        simp only [List.filter_cons, List.filter_nil, q, if_false, List.append_nil, Bool.false_eq_true]
        exact hD2
    rintro H2 ⟨hD2, S2⟩
    rw [List.length_map, List.take_length] at hD2
    refine ⟨by show 1 ≤ sizeLine; decide, fun o ho => ?_⟩
    have So := same_new (o := .lst [.str "Zed"]) ho
    have lf := List.length_filter_le (fun o => !decide (o ∈ ms)) fs
    refine ⟨D, o, _, _, rfl, rfl, So _ _ hD2, upd_same, by rw [List.length_map]; show _ + 1 ≤ 16777216; omega, fun O hO => ?_⟩
    have SO := (S2.trans So).trans (same_new (o := .lst (((fs.filter fun o => !decide (o ∈ ms)).map V.str) ++ [.str "Zed"])) hO)
    obtain ⟨os, eo, lo, go⟩ : ∃ os : List Str, ((fs.filter fun o => !decide (o ∈ ms)).map V.str) ++ [.str "Zed"] = os.map V.str ∧ (0 < os.length ∧ os.length ≤ 10) ∧ ∀ z, z ∈ os → z ∉ ms ∧ Gd z := by
      refine ⟨(fs.filter fun o => !decide (o ∈ ms)) ++ [("Zed" : Str)], by rw [List.map_append]; rfl, ⟨by simp, by simp; omega⟩, fun z hz => ?_⟩
      rcases List.mem_append.mp hz with h | h
      · have := List.mem_filter.mp h
        exact ⟨by simpa using this.2, gf z this.1⟩
      · rw [List.mem_singleton.mp h]
        exact ⟨nz, gd_of (by decide +kernel)⟩
    have hO1 : (upd (upd H2 o (.lst [.str "Zed"])) O (.lst (((fs.filter fun o => !decide (o ∈ ms)).map V.str) ++ [.str "Zed"]))) O = some (.lst (os.map V.str)) := by rw [upd_same, eo]
    generalize upd (upd H2 o (.lst [.str "Zed"])) O (.lst (((fs.filter fun o => !decide (o ∈ ms)).map V.str) ++ [.str "Zed"])) = H1 at SO hO1
    have J1 := J.same SO
    have hM1 := Same.sqT SO hM
    have Oj : O ≠ j := fun e => by
      obtain ⟨ns, p, r, l, s', n, q⟩ := J1
      rw [e, q.at_] at hO1
      have := Option.some.inj hO1
      cases os <;> cases this
    obtain ⟨z0, mr, em⟩ : ∃ z0 mr, ms = z0 :: mr := by
      cases ms with
      | nil => cases m0
      | cons z r => exact ⟨z, r, rfl⟩
    have g0 : Gd z0 := gm z0 (by rw [em]; exact List.mem_cons_self)
    have at0 : atI (ms.map V.str) 0 = some (.str z0) := by
      rw [em]
      exact atI_nat (j := 0) rfl
    obtain ⟨z1, g1, at1⟩ : ∃ z1, Gd z1 ∧ atI (ms.map V.str) (-1) = some (.str z1) := by
      rcases List.eq_nil_or_concat ms with e | ⟨r, z, e⟩
      · rw [e] at m0
        cases m0
      · refine ⟨z, gm z (by rw [e]; simp), ?_⟩
        rw [e, List.concat_eq_append, List.map_append]
        exact at_last _ _
    have pk : BT K j c ms [some (.ref j), some (.ref a), some (.ref t), some (.ref O), none, none] H1 (tLst (tCons (tC (.str "head")) (tCons (tCall (spPick K) [] E0 (tCons (tVar 0) (tCons (tVar 3) tNil))) tNil))) := fun H' R J' B' h => by
      refine ⟨_, rfl, _, rfl, j, c, O, os.map V.str, rfl, J', .inl (SqL.of (B' _ _ hO1 Oj)), .inr Oj, by rw [List.length_map]; omega, by rw [List.length_map]; omega, fun i v H3 hv J3 B3 => ?_⟩
      obtain ⟨z, hz, rfl⟩ := List.mem_map.mp (List.mem_of_getElem? hv)
      obtain ⟨zn, zg⟩ := go z hz
      refine ⟨by show 2 ≤ sizeLine; decide, fun p hp => h _ _ (J3.new hp) (B3.trans (But.of (same_new hp))) ⟨p, ["head", z], rfl, upd_same, by show 2 ≤ 9; decide, mow2 (.inr zn) (by intro h; exact absurd h.1 (by decide +kernel)), fun u hu => ?_⟩⟩
      simp only [List.mem_cons, List.not_mem_nil, or_false] at hu
      rcases hu with rfl | rfl
      · exact gd_of (by decide +kernel)
      · exact zg
    have t3 : BT K j c ms [some (.ref j), some (.ref a), some (.ref t), some (.ref O), none, none] H1 (tLst (tCons (tC (.str "head")) (tCons (tOp (rIxT K) (tVar 2) (tC (.int 0))) (tCons (tOp (rIxT K) (tVar 2) (tUn (rU fun i => .int (-i)) (tC (.int 1)))) tNil)))) := fun H' R J' B' h => by
      have hM' := B'.sqT J1 hM1
      refine ⟨_, rfl, t, _, _, _, rfl, rfl, hM', at0, _, rfl, 1, rfl, t, _, _, _, rfl, rfl, hM', at1, by show 3 ≤ sizeLine; decide, fun p hp => ?_⟩
      refine h _ _ (J'.new hp) (But.of (same_new hp)) ⟨p, ["head", z0, z1], rfl, upd_same, by show 3 ≤ 9; decide, rfl, fun u hu => ?_⟩
      simp only [List.mem_cons, List.not_mem_nil, or_false] at hu
      rcases hu with rfl | rfl | rfl
      · exact gd_of (by decide +kernel)
      · exact g0
      · exact g1
    have t4 : BT K j c ms [some (.ref j), some (.ref a), some (.ref t), some (.ref O), none, none] H1 (tLst (tCons (tC (.str "head")) (tCons (tC (.str "head")) (tCons (tOp (rIxT K) (tVar 2) (tC (.int 0))) tNil)))) := fun H' R J' B' h => by
      have hM' := B'.sqT J1 hM1
      refine ⟨_, rfl, t, _, _, _, rfl, rfl, hM', at0, by show 3 ≤ sizeLine; decide, fun p hp => ?_⟩
      refine h _ _ (J'.new hp) (But.of (same_new hp)) ⟨p, ["head", "head", z0], rfl, upd_same, by show 3 ≤ 9; decide, rfl, fun u hu => ?_⟩
      simp only [List.mem_cons, List.not_mem_nil, or_false] at hu
      rcases hu with rfl | rfl | rfl
      · exact gd_of (by decide +kernel)
      · exact gd_of (by decide +kernel)
      · exact g0
    have menu := ba_cons (K := K) (j := j) (c := c) (ms := ms) (σ0 := [some (.ref j), some (.ref a), some (.ref t), some (.ref O), none, none]) (H1 := H1) lit0 (ba_cons (lit1 "head") (ba_cons (lit1 "far") (ba_cons (lit2 "far" "0") (ba_cons (lit2 "far" "10") (ba_cons pk (ba_cons (lit1 "Each") (ba_cons (lit2 "each" "each") (ba_cons (lit2 "some" "more") (ba_cons (lit2 "far" "x") (ba_cons (lit3 "far" "1" "2")
      (ba_cons (lit2 "none" "none") (ba_cons t3 (ba_cons (lit2 "most" "of") (ba_cons (lit2 "far" "-1") (ba_cons (lit1 "top") (ba_cons (lit2 "{" "each" (gx := gd_brace 123 (.inl rfl))) (ba_cons (lit1 "Zed") (ba_cons t4 (ba_cons (lit1 "eachsome") (ba_cons (lit1 "all") (ba_cons (lit1 "far1") (ba_cons (lit2 "each" "(" (gy := gd_brace 40 (.inr rfl))) (ba_cons (lit2 "scores" "1") ba_nil)))))))))))))))))))))))
    dsimp only [gName]
    refine use_menu menu J1 (by show 24 ≤ 16777216; decide) fun xs H3 p J3 B3 lx hx hp => ?_
    have lx' : xs.length = 24 := lx
    refine ⟨_, rfl, _, rfl, j, c, p, xs, rfl, J3.new hp, .inl (SqL.of upd_same), .inr (J3.nj hp), by omega, by omega, fun i v H4 hv J4 B4 => ?_⟩
    obtain ⟨q, ws, rfl, hq, lw, mw, gw⟩ := (hx v (List.mem_of_getElem? hv)).but J3 ((But.of (same_new hp)).trans B4)
    exact k q ws H4 ⟨q, rfl, hq⟩ lw mw gw J4 ((But.of SO).trans (B3.trans ((But.of (same_new hp)).trans B4)))
end Bq
set_option Elab.async false
set_option linter.all false
set_option maxRecDepth 100000
set_option maxHeartbeats 4000000
namespace Bq
open PySem PySem.Spec PyProof.Rows L2 Cw
/-! ### f(k = v, ..), nothing by position -/
section
variable {X : Cx} {CX : CXT} {k : Nat} {f : Addr} {fd : FuncData} {ps ks : List Str} {sp : Sp} {E : XK} {x : Str} {p pos : Pos} {kws : List Keyword} {tk : TA} {g : List Value → List Value → List Value} {gV : List V → List V → List V}
theorem pe_callKO (F : FnOk X.prog X.w X.K X.mg X.base CX k f fd ps sp) (hr : Room k X.A) (hg : Gl X x) (hm : X.mg x = some (.ref f)) (hk : PySem.W.keepIn X.K (.ref f) = true) (hb : KBinds X.K fd ps ks g gV) (hx : Passes CX X E)
    (hkw : PK X kws tk) (hall : (backToKw pos (keywordEach kws X.env)).all (·.1.isSome) = true := by rfl) (hks : (backToKw pos (keywordEach kws X.env)).filterMap (·.1) = ks := by rfl) (hdb : (x == ("__debug__" : Str)) = false := by decide)
    (hpl : ((backTo pos (starEach [] X.env)).any (·.1) || (backToKw pos (keywordEach kws X.env)).any (·.1.isNone)) = false := by rfl) : PE X (.Call (.Name x p) [] kws pos) (tCallK sp gV E tNil tk) := by
  refine ⟨fun pins s σ H Q I h => wpAny_Call_Name_kw (ld_glob I hg hm ?_ hdb)⟩
  refine PySem.W.callWith_KW0 (h₀ := X.base) I.ok.mod.kin hk hall (thn (hkw.run pos pins s σ H _ I h) fun ws s2 ⟨zs, H2, I2, rz, q2⟩ => ⟨I2.kIn, ?_⟩) hpl
  rw [hks]
  exact run_fnk (us := []) (vs := []) F hr hb hx I2 .nil rz q2
end
def swap2 {α : Type} : List α → List α → List α
  | [], [m, t] => [t, m]
  | _, _ => []
def turn5 {α : Type} : List α → List α → List α
  | [], [d, c, m, t, w] => [w, t, m, d, c]
  | _, _ => []
theorem swap2_rel : ∀ {vs : List V} {us : List Value} {zs : List V} {ws : List Value}, Vals vs us → Vals zs ws → Vals (swap2 vs zs) (swap2 us ws)
  | _, _, _, _, .cons _ _, _ => .nil
  | _, _, _, _, .nil, .nil => .nil
  | _, _, _, _, .nil, .cons _ .nil => .nil
  | _, _, _, _, .nil, .cons a (.cons b .nil) => .cons b (.cons a .nil)
  | _, _, _, _, .nil, .cons _ (.cons _ (.cons _ _)) => .nil
theorem turn5_rel : ∀ {vs : List V} {us : List Value} {zs : List V} {ws : List Value}, Vals vs us → Vals zs ws → Vals (turn5 vs zs) (turn5 us ws)
  | _, _, _, _, .cons _ _, _ => .nil
  | _, _, _, _, .nil, .nil => .nil
  | _, _, _, _, .nil, .cons _ .nil => .nil
  | _, _, _, _, .nil, .cons _ (.cons _ .nil) => .nil
  | _, _, _, _, .nil, .cons _ (.cons _ (.cons _ .nil)) => .nil
  | _, _, _, _, .nil, .cons _ (.cons _ (.cons _ (.cons _ .nil))) => .nil
  | _, _, _, _, .nil, .cons a (.cons b (.cons c (.cons d (.cons e .nil)))) => .cons e (.cons d (.cons c (.cons a (.cons b .nil))))
  | _, _, _, _, .nil, .cons _ (.cons _ (.cons _ (.cons _ (.cons _ (.cons _ _))))) => .nil
theorem swap2_len {α : Type} {us ws : List α} (h : (swap2 us ws).length = 2) : ∃ m t, us = [] ∧ ws = [m, t] := by
  unfold swap2 at h
  split at h
  · exact ⟨_, _, rfl, rfl⟩
  · cases h
theorem turn5_len {α : Type} {us ws : List α} (h : (turn5 us ws).length = 5) : ∃ d c m t w, us = [] ∧ ws = [d, c, m, t, w] := by
  unfold turn5 at h
  split at h
  · exact ⟨_, _, _, _, _, rfl, rfl⟩
  · cases h
variable {K : PySem.W.Frag}
theorem kb_read {f : Addr} {fd : FuncData} (F : Fun K "read_manner" "read_manner" sread_manner f fd) : KBinds K fd ["text", "members"] ["members", "text"] swap2 swap2 := by
  obtain ⟨oc, od, kV, doc, pm, an, cdv, ct, osl, rfl, lk, hcd⟩ := F.ex
  refine ⟨fun s us ws _ hl => ?_, swap2_rel⟩
  obtain ⟨m, t, rfl, rfl⟩ := swap2_len hl
  refine BindsTo.of_eq ?_
  rfl
theorem kb_prefers {f : Addr} {fd : FuncData} (F : Fun K "prefers" "prefers" sprefers f fd) : KBinds K fd ["manner", "tastes", "members", "d", "c"] ["d", "c", "members", "tastes", "manner"] turn5 turn5 := by
  obtain ⟨oc, od, kV, doc, pm, an, cdv, ct, osl, rfl, lk, hcd⟩ := F.ex
  refine ⟨fun s us ws _ hl => ?_, turn5_rel⟩
  obtain ⟨d, c, m, t, w, rfl, rfl⟩ := turn5_len hl
  refine BindsTo.of_eq ?_
  rfl
end Bq
set_option Elab.async false
set_option linter.all false
set_option maxRecDepth 100000
set_option maxHeartbeats 8000000
namespace Bq
open PySem L2 Cw
variable {P : Program} {w : World} {K : PySem.W.Frag} {mg : Str → Option Value} {base : Heap}
/-- the class Taste as it stands -/
structure TyP (P : Program) (w : World) (K : PySem.W.Frag) (mg : Str → Option Value) (base : Heap) (C : Addr) where
  f : Addr
  fd : FuncData
  init : FnOk P w K mg base CX0 1 f fd ["self", "classes", "outcomes"] (spTaste C)
  mkc : Mk K C f
  mg : mg "Taste" = some (.ref C)
  bd : Binds K fd ["self", "classes", "outcomes"] []
theorem But.non {H H' : Hp} {j c q : Addr} {o : HO} (e : But j H H') (J : Jar K H j c) (h : H q = some o) (n : ∀ xs, o ≠ .lst xs) : H' q = some o := by
  refine e _ _ h fun i => ?_
  obtain ⟨ns, p, r, l, s, m, J⟩ := J
  rw [i, J.at_] at h
  exact n _ (Option.some.inj h).symm
theorem nod_ne {H : Hp} {j c q : Addr} {zs : List Str} (J : Jar K H j c) (h : H q = some (.lst (zs.map V.str))) : q ≠ j := fun e => by
  obtain ⟨ns, p, r, l, s, n, J⟩ := J
  rw [e, J.at_] at h
  have := Option.some.inj h
  cases zs <;> cases this
/-- what a person's taste and ranks are: both of one list of tiers; their tables stand apart from L and R -/
def Per (C L R : Addr) (H : Hp) (kl kr : List (Key × V)) (os : List Str) (o : Str) (g : List (List Str)) : Prop :=
  ∃ p r q kv, valV kl (.inr o) = some (.ref p) ∧ TasteR C H p r g ∧ r ≠ L ∧ r ≠ R ∧ valV kr (.inr o) = some (.ref q) ∧ H q = some (.dK kv) ∧ q ≠ L ∧ q ≠ R ∧ Rk kv g ∧ g.flatten.Perm os
theorem wd_cp {z : Str} (h : Wd z) : Cp z := by
  obtain ⟨c, r, e, lc, ar⟩ := h.ex
  have q : ∀ d, d ∈ z.cps.toList → d < 123 := fun d hd => by
    rw [e] at hd
    rcases List.mem_cons.mp hd with rfl | hd
    · unfold lower at lc
      simp only [Bool.and_eq_true, decide_eq_true_eq] at lc
      omega
    · have := List.all_eq_true.mp ar d hd
      unfold alnum at this
      simp only [Bool.or_eq_true, Bool.and_eq_true, decide_eq_true_eq] at this
      omega
  show PyData.strOk z = true
  unfold PyData.strOk
  rw [← Array.all_toList, List.all_eq_true]
  intro d hd
  have := q d hd
  exact decide_eq_true (by omega)
theorem flat_len : ∀ {gs : List (List Str)}, (∀ g, g ∈ gs → g ≠ []) → gs.length ≤ gs.flatten.length
  | [], _ => Nat.le_refl 0
  | g :: gs, h => by
    rw [List.flatten_cons, List.length_append, List.length_cons]
    have h1 := List.length_pos_iff.mpr (h g List.mem_cons_self)
    have h2 := flat_len fun x hx => h x (List.mem_cons_of_mem _ hx)
    omega
def okWy (ms : List Str) : Wy → Prop
  | .one k => k ∈ plainW
  | .hd y => y ∈ ms
  | .fr n => 1 ≤ n ∧ n ≤ 9
def spLaw (K : PySem.W.Frag) : Sp := fun vs H Q _ => ∃ (a : Addr) (ns : List Int), vs = [.ref a] ∧ SqL K H a (ns.map V.int) ∧ ns.length ≤ 63 ∧ ∀ H', Q (.bl true) H'
/-! ### values of a kind, made one behind another -/
section
variable {j c : Addr} {Pd : Hp → V → Prop} {σ0 : L2.St} {H1 : Hp}
def GT (K : PySem.W.Frag) (j c : Addr) (Pd : Hp → V → Prop) (σ0 : L2.St) (H1 : Hp) (te : TE) : Prop := ∀ H' R, Jar K H' j c → But j H1 H' → (∀ x H2, Jar K H2 j c → But j H' H2 → Pd H2 x → R x H2) → te σ0 H' R
def GA (K : PySem.W.Frag) (j c : Addr) (Pd : Hp → V → Prop) (σ0 : L2.St) (H1 : Hp) (n : Nat) (ta : TA) : Prop := ∀ H' R, Jar K H' j c → But j H1 H' → (∀ xs H2, Jar K H2 j c → But j H' H2 → xs.length = n → (∀ x, x ∈ xs → Pd H2 x) → R xs H2) → ta σ0 H' R
theorem ga_nil : GA K j c Pd σ0 H1 0 tNil := fun H' R J B h => h [] H' J But.refl rfl fun _ h => by cases h
theorem ga_cons (st : ∀ H H' x, Jar K H j c → But j H H' → Pd H x → Pd H' x) {n : Nat} {te : TE} {ta : TA} (a : GT K j c Pd σ0 H1 te) (b : GA K j c Pd σ0 H1 n ta) : GA K j c Pd σ0 H1 (n + 1) (tCons te ta) := fun H' R J B h =>
  a H' _ J B fun x H2 J2 B2 g => b H2 _ J2 (B.trans B2) fun xs H3 J3 B3 l hx => h (x :: xs) H3 J3 (B2.trans B3) (by rw [List.length_cons, l]) fun y hy => by
    rcases List.mem_cons.mp hy with rfl | hy
    · exact st _ _ _ J2 B3 g
    · exact hx y hy
theorem use_all {n i : Nat} {ta : TA} {rest : TS} {D : Ends} (h : GA K j c Pd σ0 H1 n ta) (J1 : Jar K H1 j c) (hn : n ≤ sizeLine)
    (k : ∀ xs H2 p, Jar K H2 j c → But j H1 H2 → xs.length = n → (∀ x, x ∈ xs → Pd H2 x) → H2 p = none → rest D (σ0.set i (some (.ref p))) (upd H2 p (.lst xs))) : tSeq (tAsg (tLst ta) (gName i)) rest D σ0 H1 :=
  h H1 _ J1 But.refl fun xs H2 J2 B2 l hx => ⟨by rw [l]; exact hn, fun p hp => k xs H2 p J2 B2 l hx hp⟩
end
def WyV (ms : List Str) (H : Hp) (x : V) : Prop := ∃ q wy, x = .ref q ∧ H q = some (.tup wy.vs) ∧ okWy ms wy
theorem WyV.but {j c : Addr} {ms : List Str} (H H' : Hp) (x : V) (J : Jar K H j c) (e : But j H H') (h : WyV ms H x) : WyV ms H' x := by
  obtain ⟨q, wy, rfl, hq, ok⟩ := h
  exact ⟨q, wy, rfl, e.non J hq (fun _ h => by cases h), ok⟩
theorem fr_text : ∀ n : Int, 1 ≤ n → n ≤ 9 → part (.int n) ∈ stepW ∧ stepI (part (.int n)) = n ∧ Gd (part (.int n)) := by
  intro n h1 h2
  have q : ∀ m : Nat, m < 10 → 1 ≤ m → part (.int (m : Int)) ∈ stepW ∧ stepI (part (.int (m : Int))) = (m : Int) ∧ ((part (.int (m : Int))).cps.toList.all plainC && !(part (.int (m : Int))).cps.toList.isEmpty && decide ((part (.int (m : Int))).length ≤ 3000)) = true := by decide +kernel
  obtain ⟨m, rfl⟩ : ∃ m : Nat, n = (m : Int) := ⟨n.toNat, by omega⟩
  obtain ⟨a, b, c⟩ := q m (by omega) (by omega)
  exact ⟨a, b, gd_of c⟩
def wyD : Wy → List PyData
  | .one k => [.str k]
  | .hd y => [.str "head", .str y]
  | .fr n => [.str "far", .int n]
theorem mow_wy {ms : List Str} : ∀ {wy : Wy}, okWy ms wy → mow (wy.vs.map part) ms = some (wyD wy)
  | .one k, h => by
    show (if k ∈ plainW then _ else _) = _
    rw [if_pos (show k ∈ plainW from h)]
    rfl
  | .hd y, h => by
    show (if ("head" : Str) = "head" ∧ y ∈ ms then _ else _) = _
    rw [if_pos ⟨rfl, (show y ∈ ms from h)⟩]
    rfl
  | .fr n, h => by
    obtain ⟨a, b, _⟩ := fr_text n h.1 h.2
    show (if ("far" : Str) = "head" ∧ part (.int n) ∈ ms then some [PyData.str "head", PyData.str (part (.int n))] else if ("far" : Str) = "far" ∧ part (.int n) ∈ stepW then some [PyData.str "far", PyData.int (stepI (part (.int n)))] else none) = _
    rw [if_neg (fun h => absurd h.1 (by decide +kernel)), if_pos ⟨rfl, a⟩, b]
    rfl
theorem wy_parts {ms : List Str} (gm : ∀ z, z ∈ ms → Gd z) : ∀ {wy : Wy}, okWy ms wy → (∀ x, x ∈ wy.vs → isPart x) ∧ (∀ z, z ∈ wy.vs.map part → Gd z) ∧ wy.vs.length ≤ 9
  | .one k, h => ⟨fun x hx => .inl ⟨k, List.mem_singleton.mp hx⟩, fun z hz => by
      have e : z = k := List.mem_singleton.mp hz
      have q : ∀ k ∈ plainW, (k.cps.toList.all plainC && !k.cps.toList.isEmpty && decide (k.length ≤ 3000)) = true := by decide +kernel
      rw [e]
      exact gd_of (q k h), by show 1 ≤ 9; decide⟩
  | .hd y, h => ⟨fun x hx => by
      simp only [Wy.vs, List.mem_cons, List.not_mem_nil, or_false] at hx
      rcases hx with rfl | rfl <;> exact .inl ⟨_, rfl⟩, fun z hz => by
      have hz : z ∈ [("head" : Str), y] := hz
      simp only [List.mem_cons, List.not_mem_nil, or_false] at hz
      rcases hz with rfl | rfl
      · exact gd_of (by decide +kernel)
      · exact gm _ h, by show 2 ≤ 9; decide⟩
  | .fr n, h => ⟨fun x hx => by
      simp only [Wy.vs, List.mem_cons, List.not_mem_nil, or_false] at hx
      rcases hx with rfl | rfl
      · exact .inl ⟨_, rfl⟩
      · exact .inr ⟨n, rfl, by have := h.1; omega, by have := h.2; omega⟩, fun z hz => by
      have hz : z ∈ [("far" : Str), part (.int n)] := hz
      simp only [List.mem_cons, List.not_mem_nil, or_false] at hz
      rcases hz with rfl | rfl
      · exact gd_of (by decide +kernel)
      · exact (fr_text n h.1 h.2).2.2, by show 2 ≤ 9; decide⟩
theorem wy_dp {H : Hp} {q : Addr} : ∀ {wy : Wy}, H q = some (.tup wy.vs) → Dp K H (.ref q) (.tuple (wyD wy))
  | .one k, h => .tup (SqT.of h) (.cons (.str _) .nil)
  | .hd y, h => .tup (SqT.of h) (.cons (.str _) (.cons (.str _) .nil))
  | .fr n, h => .tup (SqT.of h) (.cons (.str _) (.cons (.int _) .nil))
theorem wy_sm : ∀ wy : Wy, Sm 3 (.tuple (wyD wy))
  | .one k => .tuple (fun d hd => by rw [List.mem_singleton.mp hd]; exact .str _) (by show 1 < 1000000; decide)
  | .hd y => .tuple (fun d hd => by
      simp only [wyD, List.mem_cons, List.not_mem_nil, or_false] at hd
      rcases hd with rfl | rfl <;> exact .str _) (by show 2 < 1000000; decide)
  | .fr n => .tuple (fun d hd => by
      simp only [wyD, List.mem_cons, List.not_mem_nil, or_false] at hd
      rcases hd with rfl | rfl
      · exact .str _
      · exact .int _) (by show 2 < 1000000; decide)
theorem two_reads {b : Prop} [Decidable b] {σ : L2.St} {Hd : Hp} {R : VK} {z : Str} {g : Addr} {ms : List Str} (h15 : σ[15]? = some (some (.str z))) (h16 : σ[16]? = some (some (.ref g))) (lz : z.length ≤ 40000) (hg : Sq K Hd g (ms.map V.str))
    (h : ∀ v He, Same Hd He → IsMow K He v (mow (words4 z) ms) → R v He) :
    if b then tCall (spRead K) [] E0 (tCons (tVar 15) (tCons (tVar 16) tNil)) σ Hd R else tCallK (spRead K) swap2 E0 tNil (tCons (tVar 16) (tCons (tVar 15) tNil)) σ Hd R := by
  split
  · exact ⟨_, h15, _, h16, z, g, ms, rfl, lz, hg, h⟩
  · exact ⟨_, h16, _, h15, z, g, ms, rfl, lz, hg, h⟩
theorem Per.but {C L R j c : Addr} {H H' : Hp} {kl kr : List (Key × V)} {os : List Str} {o : Str} {g : List (List Str)} (h : Per C L R H kl kr os o g) (J : Jar K H j c) (e : But j H H') : Per C L R H' kl kr os o g := by
  obtain ⟨p, r, q, kv, a1, ⟨dx, fs, kvs, hp, f2, hr, rest⟩, a3, a4, a5, hq, a7⟩ := h
  exact ⟨p, r, q, kv, a1, ⟨dx, fs, kvs, e.non J hp (fun _ h => by cases h), f2, e.non J hr (fun _ h => by cases h), rest⟩, a3, a4, a5, e.non J hq (fun _ h => by cases h), a7⟩
theorem Per.tasted {C L R : Addr} {H : Hp} {kl kr : List (Key × V)} {os : List Str} {o : Str} {G : Str → List (List Str)} {d c : Str} (h : Per C L R H kl kr os o (G o)) (hd : d ∈ os) (hc : c ∈ os) : Tasted C H kl G d c o := by
  obtain ⟨p, r, q, kv, a1, tt, a3, a4, a5, hq, a7, a8, a9, pm⟩ := h
  exact ⟨p, a1, ⟨r, tt⟩, pm.mem_iff.mpr hd, pm.mem_iff.mpr hc⟩
theorem Per.ranked {C L R : Addr} {H : Hp} {kl kr : List (Key × V)} {os : List Str} {o : Str} {G : Str → List (List Str)} {d c : Str} (h : Per C L R H kl kr os o (G o)) (hd : d ∈ os) (hc : c ∈ os) : Ranked H kr G d c o := by
  obtain ⟨p, r, q, kv, a1, tt, a3, a4, a5, hq, a7, a8, a9, pm⟩ := h
  exact ⟨q, kv, a5, hq, a9, pm.mem_iff.mpr hd, pm.mem_iff.mpr hc⟩
theorem eqv_strs : ∀ ms : List Str, PyData.eqvAll (ms.map .str) (ms.map .str) = true
  | [] => rfl
  | z :: ms => by
    rw [List.map_cons, PyData.eqvAll, eqv_strs ms, PyData.eqv]
    simp
theorem strs_shaped {ms : List Str} (h : ∀ z, z ∈ ms → Cp z) : PySem.SeqAt.shaped (.list (ms.map .str)) = true := by
  unfold PySem.SeqAt.shaped
  rw [PyData.canLay0, strs_lay h, PyData.depth, strs_deep]
  rfl
theorem lit_taste {C : Addr} {σ : L2.St} {H : Hp} {Q : VK} (s1 s2 : Str) (pm : [[s1], [s2]].flatten.Perm [("a" : Str), "b"]) (h : ∀ x r H', TasteR C H' x r [[s1], [s2]] → H r = none → H x = none → Same H H' → Q (.ref x) H') :
    tMake C (spTaste C) [] E0 (tCons (tLst (tCons (tLst (tCons (tC (.str s1)) tNil)) (tCons (tLst (tCons (tC (.str s2)) tNil)) tNil))) (tCons (tLst (tCons (tC (.str "a")) (tCons (tC (.str "b")) tNil))) tNil)) σ H Q := by
  refine ⟨(by show 1 ≤ sizeLine; decide), fun l1 h1 => ⟨(by show 1 ≤ sizeLine; decide), fun l2 h2 => ⟨(by show 2 ≤ sizeLine; decide), fun l3 h3 => ⟨(by show 2 ≤ sizeLine; decide), fun l4 h4 => ?_⟩⟩⟩⟩
  intro x dx hx hdx hne
  have S1 := same_new (o := .lst [.str s1]) h1
  have S2 := same_new (o := .lst [.str s2]) h2
  have S3 := same_new (o := .lst [.ref l1, .ref l2]) h3
  have S4 := same_new (o := .lst [.str "a", .str "b"]) h4
  have S5 : ∀ b o, (upd (upd (upd (upd H l1 (.lst [.str s1])) l2 (.lst [.str s2])) l3 (.lst [.ref l1, .ref l2])) l4 (.lst [.str "a", .str "b"])) b = some o → (upd (upd (upd (upd (upd (upd H l1 (.lst [.str s1])) l2 (.lst [.str s2])) l3 (.lst [.ref l1, .ref l2])) l4 (.lst [.str "a", .str "b"])) dx (.own x)) x (.ins C dx [])) b = some o := fun b o q => by
    rw [upd_ne (ne_of_none q hx), upd_ne (ne_of_none q hdx)]
    exact q
  have SH := ((S1.trans S2).trans S3).trans S4
  refine ⟨x, dx, l3, l4, [.ref l1, .ref l2], [[s1], [s2]], [("a" : Str), "b"], rfl, upd_same, S5 _ _ (S4 _ _ upd_same), .cons ⟨l1, rfl, S5 _ _ (S4 _ _ (S3 _ _ (S2 _ _ upd_same)))⟩ (.cons ⟨l2, rfl, S5 _ _ (S4 _ _ (S3 _ _ upd_same))⟩ .nil), S5 _ _ upd_same, pm, by decide +kernel, (fun e => by cases e), ?_, by show 2 ≤ 100; decide, by show 2 ≤ 100; decide, fun H' r tt rn kp => ⟨rfl, h x r H' tt ?_ (nn SH hx) fun b o q => kp b o (S5 _ _ (SH _ _ q)) (ne_of_none (SH _ _ q) hx)⟩⟩
  · intro g hg
    simp only [List.mem_cons, List.not_mem_nil, or_false] at hg
    rcases hg with rfl | rfl <;> exact fun e => by cases e
  · cases q : H r with
    | none => rfl
    | some o => rw [S5 _ _ (SH _ _ q)] at rn; cases rn
theorem pairs2 {k1 k2 : V} {t1 t2 : TE} {σ : L2.St} {H : Hp} {Q : List (V × V) → Hp → Prop} (h : t1 σ H fun y1 H1 => t2 σ H1 fun y2 H2 => Q [(k1, y1), (k2, y2)] H2) : tPairs [(tC k1, t1), (tC k2, t2)] σ H Q := h
theorem words_far : words4 "far  9" = [("far" : Str), "9"] := words4_ext (by decide +kernel)
theorem words_head : words4 "head x" = [("head" : Str), "x"] := words4_ext (by decide +kernel)
theorem mow_far : mow [("far" : Str), "9"] [("x" : Str)] = some [.str "far", .int 9] := by
  show (if ("far" : Str) = "head" ∧ ("9" : Str) ∈ [("x" : Str)] then some [PyData.str "head", PyData.str "9"] else if ("far" : Str) = "far" ∧ ("9" : Str) ∈ stepW then some [PyData.str "far", PyData.int (stepI "9")] else none) = _
  rw [if_neg (by decide +kernel), if_pos (by decide +kernel), show stepI "9" = 9 by decide +kernel]
theorem mow_head : mow [("head" : Str), "x"] [("y" : Str)] = none := mow2 (.inr (by decide +kernel)) (by decide +kernel)
def fixG (o : Str) : List (List Str) := if o = "x" then [["a"], ["b"]] else [["b"], ["a"]]
theorem TasteR.same {C p r : Addr} {H H' : Hp} {gs : List (List Str)} (h : TasteR C H p r gs) (e : Same H H') : TasteR C H' p r gs := by
  obtain ⟨dx, fs, kvs, hp, f2, hr, q⟩ := h
  exact ⟨dx, fs, kvs, e _ _ hp, f2, e _ _ hr, q⟩
abbrev slaw : Stmt := top 37
abbrev nlaw : List Str := ["script", "jar", "turn", "fixed", "folk", "odd", "team", "goals", "likes", "ranks", "one", "ways", "way", "trial", "tiers", "page", "group", "base", "words", "goal", "tier", "due", "got"]
theorem sclaw : FnScope nlaw ["script"] (defScope slaw) := ⟨rfl, rfl, rfl, by decide +kernel, rfl, by decide +kernel, by decide +kernel⟩
theorem ok_law {C : Addr} {f : Addr} {fd : FuncData} (F : Fun K "law" "law" slaw f fd) (T : Bt mg) (Z : TyP P w K mg base C) (ZT : Tx K C)
    (D_law_jar : Dn P w K mg base 1 "_law_jar" ["script"] (spJar K)) (D_law_draw : Dn P w K mg base 1 "_law_draw" ["jar", "many"] (spDraw K)) (D_law_pick : Dn P w K mg base 2 "_law_pick" ["jar", "menu"] (spPick K)) (D_law_mixed : Dn P w K mg base 2 "_law_mixed" ["jar", "things"] (spMixed K))
    (D_law_dress : Dn P w K mg base 2 "_law_dress" ["jar", "things"] (spDress K)) (D_law_words : Dn P w K mg base 4 "_law_words" ["jar", "many"] (spWords K)) (D_law_same : Dn P w K mg base 3 "_law_same" ["got", "due"] (spSame K 3)) (D_law_teams : Dn P w K mg base 1 "_law_teams" ["folk"] spTeams)
    (D_law_tiers : Dn P w K mg base 3 "_law_tiers" ["jar", "goals"] (spTiers K)) (D_law_ranks : Dn P w K mg base 1 "_law_ranks" ["tiers"] spRanks) (D_law_spread : Dn P w K mg base 3 "_law_spread" ["jar", "words"] (spSpread K)) (D_law_way_words : Dn P w K mg base 1 "_law_way_words" ["way"] (spWay K))
    (Dread_manner : Dn P w K mg base 2 "read_manner" ["text", "members"] (spRead K)) (KB_read_manner : KBinds K Dread_manner.fd ["text", "members"] ["members", "text"] swap2 swap2) (D_law_takes : Dn P w K mg base 1 "_law_takes" ["way", "team", "ranks", "base", "goal"] (spTakes K))
    (Dprefers : Dn P w K mg base 3 "prefers" ["manner", "tastes", "members", "d", "c"] (spPrefers K C)) (KB_prefers : KBinds K Dprefers.fd ["manner", "tastes", "members", "d", "c"] ["d", "c", "members", "tastes", "manner"] turn5 turn5) (D_law_wrong_words : Dn P w K mg base 3 "_law_wrong_words" ["jar", "folk", "team"] (spWrong K)) :
    FnOk P w K mg base CX0 6 f fd ["script"] (spLaw K) := by
  refine F.ok sclaw (fun vs H Q E h => ?_) (fun cdv A outer s H vs Q E hr h => ?_)
  · obtain ⟨a, ns, rfl, _⟩ := h
    rfl
  · obtain ⟨a, ns, rfl, hS, hl, k⟩ := h
    have hu : (A.deeper (PyProof.Rows.envOfC (Str.ofString "law") (defScope slaw) s.heap.objs.size f cdv)).units + 1 < cLine := by have := hr.units; omega
    refine ⟨_, (pss_cons (ps_set (i := 1) sclaw.nd rfl (Or.inl rfl) (pe_call D_law_jar.ok (hr.mono (by omega)) rfl D_law_jar.mg D_law_jar.kp D_law_jar.bd .nil pass0 (pa_cons (pv 0) pa_nil)))
      (pss_cons (ps_for PassesOwn.never rfl (pi_range1 rfl T.b_range (pa_cons pe_int pa_nil)) (pg_name (i := 2) sclaw.nd rfl (Or.inl rfl))
      (pss_cons (ps_set (i := 4) sclaw.nd rfl (Or.inl rfl) (pe_call D_law_words.ok (hr.mono (by omega)) rfl D_law_words.mg D_law_words.kp D_law_words.bd .nil pass0 (pa_cons (pv 1) (pa_cons (pe_op op_add pe_int (pe_call D_law_draw.ok (hr.mono (by omega)) rfl D_law_draw.mg D_law_draw.kp D_law_draw.bd .nil pass0 (pa_cons (pv 1) (pa_cons pe_int pa_nil)))) pa_nil))))
      (pss_cons (ps_set (i := 5) sclaw.nd rfl (Or.inl rfl) (pe_call D_law_pick.ok (hr.mono (by omega)) rfl D_law_pick.mg D_law_pick.kp D_law_pick.bd .nil pass0 (pa_cons (pv 1) (pa_cons (pe_lst (pa_cons pe_str (pa_cons pe_str (pa_cons pe_str (pa_cons pe_str (pa_cons pe_str pa_nil)))))) pa_nil))))
      (C8.pss_cut (ps_if (PW.pt (pw_and (pt_cmpR (oNotIn (K := K)) (pv 5) (pv 4) rfl) (pw_and1 (pt_cmpR op_eq (pe_call D_law_draw.ok (hr.mono (by omega)) rfl D_law_draw.mg D_law_draw.kp D_law_draw.bd .nil pass0 (pa_cons (pv 1) (pa_cons pe_int pa_nil))) pe_int (nomark _))))) (pss_one (ps_asg (pv 5) (pg_sub (pv 4) (pe_call D_law_draw.ok (hr.mono (by omega)) rfl D_law_draw.mg D_law_draw.kp D_law_draw.bd .nil pass0 (pa_cons (pv 1) (pa_cons (pe_callB (cLen (K := K)) rfl T.b_len T.o_len (pa_cons (pv 4) pa_nil)) pa_nil))) set_list))) pss_nil)
      (pss_cons (ps_set (i := 6) sclaw.nd rfl (Or.inl rfl) (pe_call D_law_pick.ok (hr.mono (by omega)) rfl D_law_pick.mg D_law_pick.kp D_law_pick.bd .nil pass0 (pa_cons (pv 1) (pa_cons (pe_call D_law_teams.ok (hr.mono (by omega)) rfl D_law_teams.mg D_law_teams.kp D_law_teams.bd .nil pass0 (pa_cons (pv 4) pa_nil)) pa_nil))))
      (C8.pss_cut (ps_if (pt_cmpR op_eq (pe_call D_law_draw.ok (hr.mono (by omega)) rfl D_law_draw.mg D_law_draw.kp D_law_draw.bd .nil pass0 (pa_cons (pv 1) (pa_cons pe_int pa_nil))) pe_int (nomark _)) (pss_one (ps_set (i := 6) sclaw.nd rfl (Or.inl rfl) (pe_callTy (cTuple (K := K)) rfl T.b_tuple T.o_tuple (pa_cons (pv 4) pa_nil)))) pss_nil)
      (pss_cons (ps_set (i := 7) sclaw.nd rfl (Or.inl rfl) (pe_call D_law_words.ok (hr.mono (by omega)) rfl D_law_words.mg D_law_words.kp D_law_words.bd .nil pass0 (pa_cons (pv 1) (pa_cons (pe_op op_add pe_int (pe_call D_law_draw.ok (hr.mono (by omega)) rfl D_law_draw.mg D_law_draw.kp D_law_draw.bd .nil pass0 (pa_cons (pv 1) (pa_cons pe_int pa_nil)))) pa_nil))))
      (pss_cons (ps_set (i := 8) sclaw.nd rfl (Or.inl rfl) pe_dnewK)
      (pss_cons (ps_set (i := 9) sclaw.nd rfl (Or.inl rfl) pe_dnewK)
      (pss_cons (ps_for PassesOwn.never rfl (piL (K := K) (pe_call D_law_mixed.ok (hr.mono (by omega)) rfl D_law_mixed.mg D_law_mixed.kp D_law_mixed.bd .nil pass0 (pa_cons (pv 1) (pa_cons (pv 6) pa_nil)))) (pg_name (i := 10) sclaw.nd rfl (Or.inl rfl))
      (pss_cons (ps_set (i := 14) sclaw.nd rfl (Or.inl rfl) (pe_call D_law_tiers.ok (hr.mono (by omega)) rfl D_law_tiers.mg D_law_tiers.kp D_law_tiers.bd .nil pass0 (pa_cons (pv 1) (pa_cons (pv 7) pa_nil))))
      (pss_cons (ps_dput hu (pv 8) (pv 10) (pe_make Z.mkc Z.init (hr.mono (by omega)) rfl Z.mg Z.bd .nil pass0 (pa_cons (pe_lc (own := [("tier", 20)]) (g := gName 20) (tt := tYes) rfl sclaw.nd (piL (K := K) (pv 14)) (blkOk_by (own := [("tier", 20)]) (N := nlaw) (sc := defScope slaw) (by decide +kernel)) (fun _ _ _ _ _ => pg_name (i := 20) sclaw.nd rfl (Or.inl rfl)) (fun _ _ _ _ _ => pts_nil) (fun _ _ _ _ _ => (pe_callTy (cList (K := K)) rfl T.b_list T.o_list (pa_cons (pv 20) pa_nil)))) (pa_cons (pe_callTy (cList (K := K)) rfl T.b_list T.o_list (pa_cons (pv 7) pa_nil)) pa_nil))) rfl)
      (pss_one (ps_dput hu (pv 9) (pv 10) (pe_call D_law_ranks.ok (hr.mono (by omega)) rfl D_law_ranks.mg D_law_ranks.kp D_law_ranks.bd .nil pass0 (pa_cons (pv 14) pa_nil)) rfl)))))
      (pss_cons (ps_set (i := 11) sclaw.nd rfl (Or.inl rfl) (pe_lst (pa_cons (pe_tup (pa_cons pe_str pa_nil)) (pa_cons (pe_tup (pa_cons pe_str pa_nil)) (pa_cons (pe_tup (pa_cons pe_str pa_nil)) (pa_cons (pe_tup (pa_cons pe_str pa_nil)) (pa_cons (pe_tup (pa_cons pe_str (pa_cons (pe_call D_law_pick.ok (hr.mono (by omega)) rfl D_law_pick.mg D_law_pick.kp D_law_pick.bd .nil pass0 (pa_cons (pv 1) (pa_cons (pv 6) pa_nil))) pa_nil))) (pa_cons (pe_tup (pa_cons pe_str (pa_cons (pe_op op_add pe_int (pe_call D_law_draw.ok (hr.mono (by omega)) rfl D_law_draw.mg D_law_draw.kp D_law_draw.bd .nil pass0 (pa_cons (pv 1) (pa_cons pe_int pa_nil)))) pa_nil))) (pa_cons (pe_tup (pa_cons pe_str (pa_cons (pe_op op_add pe_int (pe_call D_law_draw.ok (hr.mono (by omega)) rfl D_law_draw.mg D_law_draw.kp D_law_draw.bd .nil pass0 (pa_cons (pv 1) (pa_cons pe_int pa_nil)))) pa_nil))) pa_nil)))))))))
      (pss_cons (ps_for PassesOwn.never rfl (piL (K := K) (pe_call D_law_mixed.ok (hr.mono (by omega)) rfl D_law_mixed.mg D_law_mixed.kp D_law_mixed.bd .nil pass0 (pa_cons (pv 1) (pa_cons (pv 11) pa_nil)))) (pg_name (i := 12) sclaw.nd rfl (Or.inl rfl))
      (pss_cons (ps_set (i := 15) sclaw.nd rfl (Or.inl rfl) (pe_call D_law_spread.ok (hr.mono (by omega)) rfl D_law_spread.mg D_law_spread.kp D_law_spread.bd .nil pass0 (pa_cons (pv 1) (pa_cons (pe_call D_law_way_words.ok (hr.mono (by omega)) rfl D_law_way_words.mg D_law_way_words.kp D_law_way_words.bd .nil pass0 (pa_cons (pv 12) pa_nil)) pa_nil))))
      (pss_cons (ps_set (i := 16) sclaw.nd rfl (Or.inl rfl) (pe_call D_law_dress.ok (hr.mono (by omega)) rfl D_law_dress.mg D_law_dress.kp D_law_dress.bd .nil pass0 (pa_cons (pv 1) (pa_cons (pv 6) pa_nil))))
      (pss_cons (ps_if (pt_not (pt_val (pe_call D_law_same.ok (hr.mono (by omega)) rfl D_law_same.mg D_law_same.kp D_law_same.bd .nil pass0 (pa_cons (pe_ifExp (pt_cmpR op_eq (pe_call D_law_draw.ok (hr.mono (by omega)) rfl D_law_draw.mg D_law_draw.kp D_law_draw.bd .nil pass0 (pa_cons (pv 1) (pa_cons pe_int pa_nil))) pe_int (nomark _)) (pe_call Dread_manner.ok (hr.mono (by omega)) rfl Dread_manner.mg Dread_manner.kp Dread_manner.bd .nil pass0 (pa_cons (pv 15) (pa_cons (pv 16) pa_nil))) (pe_callKO Dread_manner.ok (hr.mono (by omega)) rfl Dread_manner.mg Dread_manner.kp KB_read_manner pass0 (pk_cons (pv 16) (pk_cons (pv 15) pk_nil)))) (pa_cons (pv 12) pa_nil))))) (pss_one (ps_ret pe_bl)) pss_nil)
      (pss_cons (ps_for PassesOwn.never rfl (piL (K := K) (pv 7)) (pg_name (i := 17) sclaw.nd rfl (Or.inl rfl))
      (pss_one (ps_for PassesOwn.never rfl (piL (K := K) (pv 7)) (pg_name (i := 19) sclaw.nd rfl (Or.inl rfl))
      (pss_one (ps_if (pt_cmpR op_ne (pv 17) (pv 19) (nomark _)) (pss_cons (ps_set (i := 21) sclaw.nd rfl (Or.inl rfl) (pe_call D_law_takes.ok (hr.mono (by omega)) rfl D_law_takes.mg D_law_takes.kp D_law_takes.bd .nil pass0 (pa_cons (pv 12) (pa_cons (pv 6) (pa_cons (pv 9) (pa_cons (pv 17) (pa_cons (pv 19) pa_nil)))))))
      (C8.pss_cut (ps_if (pt_cmpR op_gt (pe_call D_law_draw.ok (hr.mono (by omega)) rfl D_law_draw.mg D_law_draw.kp D_law_draw.bd .nil pass0 (pa_cons (pv 1) (pa_cons pe_int pa_nil))) pe_int (nomark _)) (pss_one (ps_set (i := 22) sclaw.nd rfl (Or.inl rfl) (pe_call Dprefers.ok (hr.mono (by omega)) rfl Dprefers.mg Dprefers.kp Dprefers.bd .nil pass0 (pa_cons (pv 12) (pa_cons (pe_callTy call_dictD rfl T.b_dict T.o_dict (pa_cons (pv 8) pa_nil)) (pa_cons (pv 16) (pa_cons (pv 19) (pa_cons (pv 17) pa_nil)))))))) (pss_one (ps_set (i := 22) sclaw.nd rfl (Or.inl rfl) (pe_callKO Dprefers.ok (hr.mono (by omega)) rfl Dprefers.mg Dprefers.kp KB_prefers pass0 (pk_cons (pv 19) (pk_cons (pv 17) (pk_cons (pv 16) (pk_cons (pe_callTy call_dictD rfl T.b_dict T.o_dict (pa_cons (pv 8) pa_nil)) (pk_cons (pv 12) pk_nil)))))))))
      (pss_one (ps_if (pt_not (pt_val (pe_call D_law_same.ok (hr.mono (by omega)) rfl D_law_same.mg D_law_same.kp D_law_same.bd .nil pass0 (pa_cons (pv 22) (pa_cons (pv 21) pa_nil))))) (pss_one (ps_ret pe_bl)) pss_nil)))) pss_nil)))))
      (pss_one (ps_if (pt_cmpR (oNeD (K := K) hr.units) (pe_callTy (cList (K := K)) rfl T.b_list T.o_list (pa_cons (pv 16) pa_nil)) (pe_callTy (cList (K := K)) rfl T.b_list T.o_list (pa_cons (pv 6) pa_nil)) (nomark _)) (pss_one (ps_ret pe_bl)) pss_nil)))))))
      (pss_one (ps_for PassesOwn.never rfl (pi_range1 rfl T.b_range (pa_cons pe_int pa_nil)) (pg_name (i := 13) sclaw.nd rfl (Or.inl rfl))
      (pss_cons (ps_set (i := 18) sclaw.nd rfl (Or.inl rfl) (pe_call D_law_wrong_words.ok (hr.mono (by omega)) rfl D_law_wrong_words.mg D_law_wrong_words.kp D_law_wrong_words.bd .nil pass0 (pa_cons (pv 1) (pa_cons (pv 4) (pa_cons (pv 6) pa_nil)))))
      (pss_cons (ps_set (i := 15) sclaw.nd rfl (Or.inl rfl) (pe_call D_law_spread.ok (hr.mono (by omega)) rfl D_law_spread.mg D_law_spread.kp D_law_spread.bd .nil pass0 (pa_cons (pv 1) (pa_cons (pv 18) pa_nil))))
      (pss_one (ps_if (pt_cmpR op_notN (pe_call Dread_manner.ok (hr.mono (by omega)) rfl Dread_manner.mg Dread_manner.kp Dread_manner.bd .nil pass0 (pa_cons (pv 15) (pa_cons (pe_call D_law_dress.ok (hr.mono (by omega)) rfl D_law_dress.mg D_law_dress.kp D_law_dress.bd .nil pass0 (pa_cons (pv 1) (pa_cons (pv 6) pa_nil))) pa_nil))) pe_non (nomark _)) (pss_one (ps_ret pe_bl)) pss_nil))))))))))))))))))
      (pss_cons (ps_set (i := 3) sclaw.nd rfl (Or.inl rfl) (pe_disp (pps_cons pe_str (pe_make Z.mkc Z.init (hr.mono (by omega)) rfl Z.mg Z.bd .nil pass0 (pa_cons (pe_lst (pa_cons (pe_lst (pa_cons pe_str pa_nil)) (pa_cons (pe_lst (pa_cons pe_str pa_nil)) pa_nil))) (pa_cons (pe_lst (pa_cons pe_str (pa_cons pe_str pa_nil))) pa_nil))) (pps_cons pe_str (pe_make Z.mkc Z.init (hr.mono (by omega)) rfl Z.mg Z.bd .nil pass0 (pa_cons (pe_lst (pa_cons (pe_lst (pa_cons pe_str pa_nil)) (pa_cons (pe_lst (pa_cons pe_str pa_nil)) pa_nil))) (pa_cons (pe_lst (pa_cons pe_str (pa_cons pe_str pa_nil))) pa_nil))) pps_nil)) (by rfl) (by rfl) (fun z => by cases z) (by decide)))
      (pss_cons (ps_if (pt_not (pt_val (pe_call D_law_same.ok (hr.mono (by omega)) rfl D_law_same.mg D_law_same.kp D_law_same.bd .nil pass0 (pa_cons (pe_lst (pa_cons (pe_call Dprefers.ok (hr.mono (by omega)) rfl Dprefers.mg Dprefers.kp Dprefers.bd .nil pass0 (pa_cons (pe_tup (pa_cons pe_str pa_nil)) (pa_cons (pv 3) (pa_cons (pe_tup (pa_cons pe_str (pa_cons pe_str pa_nil))) (pa_cons pe_str (pa_cons pe_str pa_nil)))))) (pa_cons (pe_call Dprefers.ok (hr.mono (by omega)) rfl Dprefers.mg Dprefers.kp Dprefers.bd .nil pass0 (pa_cons (pe_tup (pa_cons pe_str (pa_cons pe_str pa_nil))) (pa_cons (pv 3) (pa_cons (pe_lst (pa_cons pe_str (pa_cons pe_str pa_nil))) (pa_cons pe_str (pa_cons pe_str pa_nil)))))) pa_nil))) (pa_cons (pe_lst (pa_cons pe_bl (pa_cons pe_bl pa_nil))) pa_nil))))) (pss_one (ps_ret pe_bl)) pss_nil)
      (pss_one (ps_ret (pe_and (pe_call D_law_same.ok (hr.mono (by omega)) rfl D_law_same.mg D_law_same.kp D_law_same.bd .nil pass0 (pa_cons (pe_call Dread_manner.ok (hr.mono (by omega)) rfl Dread_manner.mg Dread_manner.kp Dread_manner.bd .nil pass0 (pa_cons pe_str (pa_cons (pe_lst (pa_cons pe_str pa_nil)) pa_nil))) (pa_cons (pe_tup (pa_cons pe_str (pa_cons pe_int pa_nil))) pa_nil))) (pe_one (pe_call D_law_same.ok (hr.mono (by omega)) rfl D_law_same.mg D_law_same.kp D_law_same.bd .nil pass0 (pa_cons (pe_call Dread_manner.ok (hr.mono (by omega)) rfl Dread_manner.mg Dread_manner.kp Dread_manner.bd .nil pass0 (pa_cons pe_str (pa_cons (pe_tup (pa_cons pe_str pa_nil)) pa_nil))) (pa_cons pe_non pa_nil))))))))))), ?_⟩
    -- jar = _law_jar(script)
    refine ⟨_, rfl, a, ns, rfl, hS, hl, fun j c H1 hj hc J1 S1 => ?_⟩
    refine ⟨3, rfl, by decide, by decide, ?_⟩
    refine for_range (n := 3) (fun i σ H2 => ∃ (v2 v4 v5 v6 v7 v8 v9 v10 v11 v12 v13 v14 v15 v16 v17 v18 v19 v20 v21 v22 : Option V), σ = [some (.ref a), some (.ref j), v2, none, v4, v5, v6, v7, v8, v9, v10, v11, v12, v13, v14, v15, v16, v17, v18, v19, v20, v21, v22] ∧ Jar K H2 j c) ⟨none, none, none, none, none, none, none, none, none, none, none, none, none, none, none, none, none, none, none, none, rfl, J1⟩ ?_ ?_
    · rintro i σ H2 hi ⟨v2, v4, v5, v6, v7, v8, v9, v10, v11, v12, v13, v14, v15, v16, v17, v18, v19, v20, v21, v22, rfl, J2⟩
      -- folk
      refine ⟨_, rfl, _, rfl, j, c, _, rfl, J2, by decide, by decide, fun d H3 d0 d1 J3 B3 => ?_⟩
      refine ⟨_, _, rfl, rfl, j, c, _, rfl, J3, by omega, by omega, fun p fs0 H4 hp0 lf0 nd0 wd0 J4 B4 hp4 => ?_⟩
      have lf1 : 1 ≤ fs0.length ∧ fs0.length ≤ 5 := by omega
      -- odd
      refine ⟨_, rfl, (by show 5 ≤ sizeLine; decide), fun q hq => ?_⟩
      refine ⟨j, c, q, _, rfl, J4.new hq, .inl (SqL.of upd_same), .inr (J4.nj hq), by decide, by decide, fun i' v H5 hv J5 B5 => ?_⟩
      obtain ⟨odd, rfl, wo, lo⟩ : ∃ z : Str, v = .str z ∧ Wd z ∧ z.length < 2000 := by
        have hm := List.mem_of_getElem? hv
        simp only [List.mem_cons, List.not_mem_nil, or_false] at hm
        rcases hm with rfl | rfl | rfl | rfl | rfl <;> exact ⟨_, rfl, ⟨_, _, rfl, by decide, by decide⟩, by decide⟩
      have hp5 := ((But.of (same_new hq)).trans B5).lst J4 hp4
      refine ⟨fun σ H' => ∃ fs : List Str, σ = [some (.ref a), some (.ref j), some (.int (0 + (i : Int))), none, some (.ref p), some (.str odd), v6, v7, v8, v9, v10, v11, v12, v13, v14, v15, v16, v17, v18, v19, v20, v21, v22] ∧ H' p = some (.lst (fs.map V.str)) ∧ (1 ≤ fs.length ∧ fs.length ≤ 5) ∧ (∀ z, z ∈ fs → Wd z ∧ z.length < 2000) ∧ Jar K H' j c, ?_, ?_⟩
      · refine ⟨_, rfl, _, rfl, p, _, rfl, .inl (SqL.of hp5), rfl, flat_strs _, _, rfl, ?_⟩
        refine ite2 (fun _ => ?_) (fun _ => ?_)
        · refine ⟨_, rfl, j, c, _, rfl, J5, by decide, by decide, fun d2 H6 d20 d21 J6 B6 => ⟨rfl, _, rfl, ?_⟩⟩
          have hp6 := B6.lst J5 hp5
          refine ite2 (fun _ => ?_) (fun _ => ?_)
          · refine ⟨_, rfl, _, rfl, _, rfl, _, rfl, p, _, rfl, .inl (SqL.of hp6), j, c, _, rfl, J6, ?_, ?_, fun d3 H7 d30 d31 J7 B7 => ?_⟩
            · rw [List.length_map]
              omega
            · rw [List.length_map]
              omega
            rw [List.length_map] at d31
            have hp7 := B7.lst J6 hp6
            have pj := nod_ne J7 hp7
            have pc : p ≠ c := fun e => by
              obtain ⟨ns', p', r', l', s', n', J⟩ := J7
              rw [e, J.cells] at hp7
              have := Option.some.inj hp7
              cases ns' with
              | nil => cases fs0 with
                | nil => have := lf1.1; simp at this
                | cons => cases this
              | cons => cases fs0 with
                | nil => cases this
                | cons => cases this
            refine ⟨p, _, d3, d3.toNat, rfl, rfl, hp7, ?_, ?_⟩
            · unfold ixN
              rw [if_pos d30, List.length_map, if_pos d31]
            · refine ⟨fs0.set d3.toNat odd, rfl, by rw [upd_same, List.map_set], by rw [List.length_set]; exact lf1, fun z hz => ?_, J7.upd pj pc⟩
              rcases List.mem_or_eq_of_mem_set hz with h | h
              · exact wd0 z h
              · rw [h]
                exact ⟨wo, lo⟩
          · exact ⟨fs0, rfl, hp6, lf1, wd0, J6⟩
        · exact ⟨fs0, rfl, hp5, lf1, wd0, J5⟩
      rintro σ H6 ⟨fs, rfl, hp6, lf, wf, J6⟩
      -- team
      refine ⟨_, rfl, _, rfl, p, fs, rfl, hp6, by omega, by omega, fun tq ts H7 htq t0 t32 htt S7 hts => ?_⟩
      have J7 := J6.same S7
      refine ⟨j, c, tq, ts, rfl, J7, .inl (SqL.of hts), .inr (fun e => by obtain ⟨o, h⟩ := J6.at_j; rw [← e, htq] at h; cases h), by omega, by omega, fun i2 v H8 hv J8 B8 => ?_⟩
      obtain ⟨ms0, ⟨m0, rfl, hm7⟩, lm0, lm5, mf⟩ := htt v (List.mem_of_getElem? hv)
      have hm8 := B8.non J7 hm7 (fun _ h => by cases h)
      have hp8 := B8.lst J7 (S7 _ _ hp6)
      refine ⟨fun σ H' => ∃ (t : Addr) (ms : List Str), σ = [some (.ref a), some (.ref j), some (.int (0 + (i : Int))), none, some (.ref p), some (.str odd), some (.ref t), v7, v8, v9, v10, v11, v12, v13, v14, v15, v16, v17, v18, v19, v20, v21, v22] ∧ H' t = some (.tup (ms.map V.str)) ∧ (0 < ms.length ∧ ms.length ≤ 5) ∧ (∀ z, z ∈ ms → z ∈ fs) ∧ H' p = some (.lst (fs.map V.str)) ∧ Jar K H' j c, ?_, ?_⟩
      · refine ⟨_, rfl, j, c, _, rfl, J8, by decide, by decide, fun d2 H9 d20 d21 J9 B9 => ⟨rfl, _, rfl, ?_⟩⟩
        have hp9 := B9.lst J8 hp8
        have hm9 := B9.non J8 hm8 (fun _ h => by cases h)
        refine ite2 (fun _ => ?_) (fun _ => ?_)
        · refine ⟨_, rfl, p, _, rfl, .inl ⟨SqL.of hp9, fun l hl => ?_⟩⟩
          exact ⟨l, fs, rfl, upd_same, ⟨by omega, lf.2⟩, fun _ h => h, same_new hl _ _ hp9, J9.new hl⟩
        · exact ⟨m0, ms0, rfl, hm9, ⟨lm0, lm5⟩, mf, hp9, J9⟩
      rintro σ H9 ⟨t, ms, rfl, ht9, lms, msf, hp9, J9⟩
      have wm : ∀ z, z ∈ ms → Wd z ∧ z.length < 2000 := fun z hz => wf z (msf z hz)
      -- goals
      refine ⟨_, rfl, _, rfl, j, c, _, rfl, J9, by decide, by decide, fun d4 H10 d40 d41 J10 B10 => ?_⟩
      refine ⟨_, _, rfl, rfl, j, c, _, rfl, J10, by omega, by omega, fun G os H11 hG0 lo5 ndo wdo J11 B11 hG => ?_⟩
      have los : 2 ≤ os.length ∧ os.length ≤ 5 := by omega
      have ht11 := B11.non J10 (B10.non J9 ht9 (fun _ h => by cases h)) (fun _ h => by cases h)
      have hp11 := B11.lst J10 (B10.lst J9 hp9)
      -- likes, ranks
      intro L hL
      intro R hR
      have LR : L ≠ R := ne_of_none upd_same hR
      have SLR : Same H11 (upd (upd H11 L (.dK [])) R (.dK [])) := (same_new hL).trans (same_new hR)
      have hL12 : (upd (upd H11 L (.dK [])) R (.dK [])) L = some (.dK []) := by rw [upd_ne LR]; exact upd_same
      have hR12 : (upd (upd H11 L (.dK [])) R (.dK [])) R = some (.dK []) := upd_same
      generalize upd (upd H11 L (.dK [])) R (.dK []) = H12 at SLR hL12 hR12 ⊢
      have J12 := J11.same SLR
      refine ⟨_, rfl, _, rfl, j, c, t, ms.map V.str, rfl, J12, .inr (SqT.of (SLR _ _ ht11)), by rw [List.length_map]; omega, fun M ys H13 hM0 pm J13 B13 hM => ?_⟩
      obtain ⟨zs, rfl, pz⟩ := perm_strs pm
      have lz := pz.length_eq
      refine ⟨M, rfl, ⟨_, SqL.of hM⟩, for_list (a := M) (xs := zs.map V.str) (fun n σ H' => ∃ (v10 v14 : Option V) (kl kr : List (Key × V)) (Gf : Str → List (List Str)), σ = [some (.ref a), some (.ref j), some (.int (0 + (i : Int))), none, some (.ref p), some (.str odd), some (.ref t), some (.ref G), some (.ref L), some (.ref R), v10, v11, v12, v13, v14, v15, v16, v17, v18, v19, v20, v21, v22] ∧ H' L = some (.dK kl) ∧ H' R = some (.dK kr) ∧ kl.length ≤ n ∧ kr.length ≤ n ∧
          (∀ o, o ∈ zs.take n → Per C L R H' kl kr os o (Gf o)) ∧ H' M = some (.lst (zs.map V.str)) ∧ H' t = some (.tup (ms.map V.str)) ∧ H' G = some (.lst (os.map V.str)) ∧ H' p = some (.lst (fs.map V.str)) ∧ Jar K H' j c)
        ⟨v10, v14, [], [], (fun _ => []), rfl, B13.non J12 hL12 (fun _ h => by cases h), B13.non J12 hR12 (fun _ h => by cases h), Nat.le_refl _, Nat.le_refl _, (fun _ h => by cases h), hM, B13.non J12 (SLR _ _ ht11) (fun _ h => by cases h), B13.lst J12 (SLR _ _ hG), B13.lst J12 (SLR _ _ hp11), J13⟩ ?_ ?_ ?_⟩
      · rintro n σ H' _ ⟨_, _, _, _, _, _, _, _, _, _, _, h, _⟩
        exact SqL.of h
      · rintro n x σ H' hx ⟨v10, v14, kl, kr, Gf, rfl, hL', hR', lkl, lkr, per, hM', ht', hG', hp', J'⟩
        have nl : n < zs.length := by
          have := (List.getElem?_eq_some_iff.mp hx).1
          rw [List.length_map] at this
          exact this
        have ex : x = .str zs[n] := by
          rw [List.getElem?_map, List.getElem?_eq_getElem nl] at hx
          exact (Option.some.inj hx).symm
        subst ex
        refine ⟨_, rfl, _, rfl, j, c, G, os, rfl, J', hG', by omega, by omega, (fun z hz => wd_cp (wdo z hz).1), fun tp ts gs Ha htp tw fl ne Ja Ba htp2 => ?_⟩
        have ltw := tw.len
        have fll := fl.length_eq
        have n0 : gs ≠ [] := fun e => by rw [e] at fll; simp at fll; omega
        have lgs : gs.length ≤ 5 := by
          have := flat_len ne
          omega
        have hLa := Ba.non J' hL' (fun _ h => by cases h)
        have hRa := Ba.non J' hR' (fun _ h => by cases h)
        have hGa := Ba.lst J' hG'
        -- likes[one] = Taste([list(tier) for tier in tiers], list(goals))
        refine ⟨_, rfl, tp, rfl, ⟨_, SqL.of htp2⟩, fun D hD => ?_⟩
        refine lc_list (a := tp) (xs := ts) (fun i Hb => ∃ acc, Hb D = some (.lst acc) ∧ Two (fun x g => x ≠ .ref D ∧ LsS Hb x g) acc (gs.take i) ∧ Same Ha Hb) ⟨[], upd_same, .nil, same_new hD⟩ ?_ ?_ ?_
        · rintro i Hb _ ⟨_, _, _, Sb⟩
          exact Sb.seq (SqL.of htp2)
        · rintro i x Hb hx ⟨acc, hDb, twb, Sb⟩
          obtain ⟨g, hg, q, rfl, hq⟩ := tw.get hx
          have il : i < ts.length := (List.getElem?_eq_some_iff.mp hx).1
          have la := twb.len
          rw [List.length_take] at la
          refine ⟨rfl, _, rfl, q, _, rfl, .inl (SqL.of (Sb _ _ hq)), fun l hl => ?_⟩
          have Sl := same_new (o := .lst (g.map V.str)) hl
          have lD : l ≠ D := fun e => by rw [e, hDb] at hl; cases hl
          refine ⟨acc, Sl _ _ hDb, by show acc.length < 16777216; omega, acc ++ [.ref l], upd_same, ?_, keepD hD Sb Sl⟩
          rw [take_next hg]
          refine Two.snoc ⟨fun e => lD (by cases e; rfl), l, rfl, by rw [upd_ne lD]; exact upd_same⟩ (twb.mono ?_)
          rintro x g ⟨nn, r, rfl, h⟩
          refine ⟨nn, r, rfl, ?_⟩
          rw [upd_ne (fun e => nn (by rw [e]))]
          exact Sl _ _ h
        rintro Hb ⟨acc, hDb, twb, Sb⟩
        rw [ltw, List.take_length] at twb
        refine ⟨_, rfl, G, _, rfl, .inl (SqL.of (Sb _ _ hGa)), fun g2 hg2 => ?_⟩
        have Sc := same_new (o := .lst (os.map V.str)) hg2
        have hg2c : (upd Hb g2 (.lst (os.map V.str))) g2 = some (.lst (os.map V.str)) := upd_same
        have hDc := Sc _ _ hDb
        have twc : Two (LsS (upd Hb g2 (.lst (os.map V.str)))) acc gs := twb.mono fun _ _ ⟨_, q, e, h⟩ => ⟨q, e, Sc _ _ h⟩
        have SHc : Same Ha (upd Hb g2 (.lst (os.map V.str))) := Sb.trans Sc
        generalize upd Hb g2 (.lst (os.map V.str)) = Hc at Sc hg2c hDc twc SHc ⊢
        intro x dx hx hdx dxx
        have Sd : ∀ b o, Hc b = some o → (upd (upd Hc dx (.own x)) x (.ins C dx [])) b = some o := fun b o h => by
          rw [upd_ne (ne_of_none h hx), upd_ne (ne_of_none h hdx)]
          exact h
        refine ⟨x, dx, D, g2, acc, gs, os, rfl, upd_same, Sd _ _ hDc, twc.mono fun _ _ ⟨q, e, h⟩ => ⟨q, e, Sd _ _ h⟩, Sd _ _ hg2c, fl, ndo, n0, ne, by omega, by omega, fun He r tt rn kp => ⟨rfl, ?_⟩⟩
        have SHe : Same Ha He := fun b o h => kp b o (Sd _ _ (SHc _ _ h)) (ne_of_none (SHc _ _ h) hx)
        have hLe := SHe _ _ hLa
        have hRe := SHe _ _ hRa
        have ra : Ha r = none := by
          cases q : Ha r with
          | none => rfl
          | some o => rw [Sd _ _ (SHc _ _ q)] at rn; cases rn
        have rL : r ≠ L := fun e => by rw [e, hLa] at ra; cases ra
        have rR : r ≠ R := fun e => by rw [e, hRa] at ra; cases ra
        refine ⟨_, rfl, _, rfl, L, _, rfl, .inl ⟨kl, .inr zs[n], hLe, rfl, by show kl.length < 16777216; omega, rfl⟩, ?_⟩
        -- ranks[one] = _law_ranks(tiers)
        have noL : ∀ {b : Addr} {xs : List V}, He b = some (.lst xs) → (upd He L (.dK (putK kl (.inr zs[n]) (.ref x)))) b = some (.lst xs) := fun {b xs} h => by
          rw [upd_ne (fun e => by rw [e, hLe] at h; cases h)]
          exact h
        refine ⟨_, rfl, tp, ts, gs, rfl, noL (SHe _ _ htp2), tw.mono fun _ _ ⟨q, e, h⟩ => ⟨q, e, noL (SHe _ _ h)⟩, fl.nodup_iff.mpr ndo, by omega, by omega, fun q kv Hf hq0 rkk Sf hq => ?_⟩
        have hRf := Sf _ _ (show (upd He L (.dK (putK kl (.inr zs[n]) (.ref x)))) R = some (.dK kr) by rw [upd_ne LR.symm]; exact hRe)
        have hLf := Sf _ _ (show (upd He L (.dK (putK kl (.inr zs[n]) (.ref x)))) L = some (.dK (putK kl (.inr zs[n]) (.ref x))) from upd_same)
        have qL : q ≠ L := fun e => by rw [e, upd_same] at hq0; cases hq0
        have qR : q ≠ R := fun e => by rw [e, upd_ne LR.symm, hRe] at hq0; cases hq0
        refine ⟨_, rfl, _, rfl, R, _, rfl, .inl ⟨kr, .inr zs[n], hRf, rfl, by show kr.length < 16777216; omega, rfl⟩, ?_⟩
        have fin : ∀ b o, He b = some o → b ≠ L → b ≠ R → (upd Hf R (.dK (putK kr (.inr zs[n]) (.ref q)))) b = some o := fun b o h n1 n2 => by
          rw [upd_ne n2]
          exact Sf _ _ (by rw [upd_ne n1]; exact h)
        have finl : ∀ {b : Addr} {xs : List Str}, Ha b = some (.lst (xs.map V.str)) → (upd Hf R (.dK (putK kr (.inr zs[n]) (.ref q)))) b = some (.lst (xs.map V.str)) := fun {b xs} h =>
          fin _ _ (SHe _ _ h) (fun e => by rw [e, hLa] at h; cases h) (fun e => by rw [e, hRa] at h; cases h)
        refine ⟨_, _, _, _, fun z => if z = zs[n] then gs else Gf z, rfl, by rw [upd_ne LR]; exact hLf, upd_same, Nat.le_trans (putK_len _ _ _) (by omega), Nat.le_trans (putK_len _ _ _) (by omega), ?_, finl (Ba.lst J' hM'), ?_, finl hGa, finl (Ba.lst J' hp'), ?_⟩
        · intro o ho
          rw [take_next (List.getElem?_eq_getElem nl)] at ho
          by_cases e : o = zs[n]
          · subst e
            show Per C L R _ _ _ os zs[n] (if zs[n] = zs[n] then gs else Gf zs[n])
            rw [if_pos rfl]
            obtain ⟨dx', fs', kvs, hpx, f2, hr9, rk9, f3, f4⟩ := tt
            have xL : x ≠ L := fun e => by rw [e, hLe] at hpx; cases hpx
            have xR : x ≠ R := fun e => by rw [e, hRe] at hpx; cases hpx
            exact ⟨x, r, q, kv, by rw [valV_put, if_pos rfl], ⟨dx', fs', kvs, fin _ _ hpx xL xR, f2, fin _ _ hr9 rL rR, rk9, f3, f4⟩, rL, rR, by rw [valV_put, if_pos rfl], by rw [upd_ne qR]; exact hq, qL, qR, rkk, fl⟩
          · show Per C L R _ _ _ os o (if o = zs[n] then gs else Gf o)
            rw [if_neg e]
            have ho' : o ∈ zs.take n := by
              rcases List.mem_append.mp ho with h | h
              · exact h
              · exact absurd (by simpa using h) e
            obtain ⟨p0, r0, q0, kv0, g1, ⟨dx', fs', kvs, hpx, f2, hr9, rk9, f3, f4⟩, rl, rr, g2', hq9, ql, qr, rk0, fl0⟩ := per o ho'
            have eo : ¬ (.inr o : Key) = .inr zs[n] := fun h => e (Sum.inr.inj h)
            have hpa := Ba.non J' hpx (fun _ h => by cases h)
            have hra := Ba.non J' hr9 (fun _ h => by cases h)
            have hqa := Ba.non J' hq9 (fun _ h => by cases h)
            have pL : p0 ≠ L := fun e => by rw [e, hLa] at hpa; cases hpa
            have pR : p0 ≠ R := fun e => by rw [e, hRa] at hpa; cases hpa
            exact ⟨p0, r0, q0, kv0, by rw [valV_put, if_neg eo]; exact g1, ⟨dx', fs', kvs, fin _ _ (SHe _ _ hpa) pL pR, f2, fin _ _ (SHe _ _ hra) rl rr, rk9, f3, f4⟩, rl, rr, by rw [valV_put, if_neg eo]; exact g2', fin _ _ (SHe _ _ hqa) ql qr, ql, qr, rk0, fl0⟩
        · have hta := Ba.non J' ht' (fun _ h => by cases h)
          exact fin _ _ (SHe _ _ hta) (fun e => by rw [e, hLa] at hta; cases hta) (fun e => by rw [e, hRa] at hta; cases hta)
        · have Je : Jar K He j c := Ja.same SHe
          have Lj : L ≠ j := fun e => by obtain ⟨_, _, _, _, _, _, q⟩ := Je; rw [e, q.at_] at hLe; cases hLe
          have Lc : L ≠ c := fun e => by obtain ⟨_, _, _, _, _, _, q⟩ := Je; rw [e, q.cells] at hLe; cases hLe
          have Jf : Jar K Hf j c := (Je.upd Lj Lc).same Sf
          have Rj : R ≠ j := fun e => by obtain ⟨_, _, _, _, _, _, q⟩ := Jf; rw [e, q.at_] at hRf; cases hRf
          have Rc : R ≠ c := fun e => by obtain ⟨_, _, _, _, _, _, q⟩ := Jf; rw [e, q.cells] at hRf; cases hRf
          exact Jf.upd Rj Rc
      rintro σ H14 ⟨v10', v14', kl, kr, Gf, rfl, hL14, hR14, lkl, lkr, per, hM14, ht14, hG14, hp14, J14⟩
      rw [List.length_map, List.take_length] at per
      replace per : ∀ o, o ∈ ms → Per C L R H14 kl kr os o (Gf o) := fun o ho => per o (pz.mem_iff.mpr ho)
      have gm : ∀ z, z ∈ ms → Gd z := fun z hz => (wm z hz).1.gd (by have := (wm z hz).2; omega)
      -- ways
      dsimp only
      have w1 : ∀ kd : Str, kd ∈ plainW → GT K j c (WyV ms) [some (.ref a), some (.ref j), some (.int (0 + (i : Int))), none, some (.ref p), some (.str odd), some (.ref t), some (.ref G), some (.ref L), some (.ref R), v10', v11, v12, v13, v14', v15, v16, v17, v18, v19, v20, v21, v22] H14 (tTup (tCons (tC (.str kd)) tNil)) := fun kd hk H' R J' B' h => ⟨by show 1 ≤ sizeLine; decide, fun q hq => h _ _ (J'.new hq) (But.of (same_new hq)) ⟨q, .one kd, rfl, upd_same, hk⟩⟩
      have w2 : GT K j c (WyV ms) [some (.ref a), some (.ref j), some (.int (0 + (i : Int))), none, some (.ref p), some (.str odd), some (.ref t), some (.ref G), some (.ref L), some (.ref R), v10', v11, v12, v13, v14', v15, v16, v17, v18, v19, v20, v21, v22] H14 (tTup (tCons (tC (.str "head")) (tCons (tCall (spPick K) [] E0 (tCons (tVar 1) (tCons (tVar 6) tNil))) tNil))) := fun H' R J' B' h => by
        have ht' := B'.non J14 ht14 (fun _ h => by cases h)
        refine ⟨_, rfl, _, rfl, j, c, t, ms.map V.str, rfl, J', .inr (SqT.of ht'), .inl (SqT.of ht'), by rw [List.length_map]; omega, by rw [List.length_map]; omega, fun i v Hx hv Jx Bx => ?_⟩
        obtain ⟨y, hy, rfl⟩ := List.mem_map.mp (List.mem_of_getElem? hv)
        exact ⟨by show 2 ≤ sizeLine; decide, fun q hq => h _ _ (Jx.new hq) (Bx.trans (But.of (same_new hq))) ⟨q, .hd y, rfl, upd_same, hy⟩⟩
      have w3 : ∀ (b m : Int), 1 ≤ b → 0 < m → b + m ≤ 10 → GT K j c (WyV ms) [some (.ref a), some (.ref j), some (.int (0 + (i : Int))), none, some (.ref p), some (.str odd), some (.ref t), some (.ref G), some (.ref L), some (.ref R), v10', v11, v12, v13, v14', v15, v16, v17, v18, v19, v20, v21, v22] H14 (tTup (tCons (tC (.str "far")) (tCons (tOp (rI0 fun i j => .int (i + j)) (tC (.int b)) (tCall (spDraw K) [] E0 (tCons (tVar 1) (tCons (tC (.int m)) tNil)))) tNil))) := fun b m b1 m0 bm H' R J' B' h => by
        refine ⟨_, rfl, j, c, m, rfl, J', m0, by omega, fun d Hx d0 d1 Jx Bx => ⟨_, _, rfl, rfl, (by show 2 ≤ sizeLine; decide), fun q hq => h _ _ (Jx.new hq) (Bx.trans (But.of (same_new hq))) ⟨q, .fr (b + d), rfl, upd_same, by omega, by omega⟩⟩⟩
      have ways := ga_cons WyV.but (w1 "each" (by decide +kernel)) (ga_cons WyV.but (w1 "some" (by decide +kernel)) (ga_cons WyV.but (w1 "most" (by decide +kernel)) (ga_cons WyV.but (w1 "none" (by decide +kernel)) (ga_cons WyV.but w2 (ga_cons WyV.but (w3 1 3 (by decide) (by decide) (by decide)) (ga_cons WyV.but (w3 4 6 (by decide) (by decide) (by decide)) (ga_nil (K := K))))))))
      refine use_all ways J14 (by show 7 ≤ 16777216; decide) fun xs H15 W J15 B15 lxs hxs hW0 => ?_
      have lxs : xs.length = 7 := lxs
      have ok1 : ∀ {wy : Wy}, okWy ms wy → ∀ k, wy = .one k → k ∈ plainW := fun h k e => by subst e; exact h
      have ok2 : ∀ {wy : Wy}, okWy ms wy → ∀ y, wy = .hd y → y ∈ ms := fun h y e => by subst e; exact h
      have BW : But j H15 (upd H15 W (.lst xs)) := But.of (same_new hW0)
      refine ⟨_, rfl, _, rfl, j, c, W, xs, rfl, J15.new hW0, .inl (SqL.of upd_same), by omega, fun M2 ys H16 hM20 pm2 J16 B16 hM2 => ?_⟩
      have B14 : But j H14 H16 := (B15.trans BW).trans B16
      have hys : ∀ y, y ∈ ys → WyV ms H16 y := fun y hy => WyV.but _ _ _ J15 (BW.trans B16) (hxs y (pm2.mem_iff.mp hy))
      have M2j : M2 ≠ j := (J15.new hW0).nj hM20
      have hL16 := B14.non J14 hL14 (fun _ h => by cases h)
      have hR16 := B14.non J14 hR14 (fun _ h => by cases h)
      have ht16 := B14.non J14 ht14 (fun _ h => by cases h)
      have hG16 := B14.lst J14 hG14
      have hp16 := B14.lst J14 hp14
      have per16 : ∀ o, o ∈ ms → Per C L R H16 kl kr os o (Gf o) := fun o ho => (per o ho).but J14 B14
      clear hL14 hR14 ht14 hG14 hM14 hp14 per ways w1 w2 w3 hxs
      refine ⟨M2, rfl, ⟨_, SqL.of hM2⟩, for_list (a := M2) (xs := ys) (fun n σ H' => ∃ (v12 v15 v16 v17 v19 v21 v22 : Option V), σ = [some (.ref a), some (.ref j), some (.int (0 + (i : Int))), none, some (.ref p), some (.str odd), some (.ref t), some (.ref G), some (.ref L), some (.ref R), v10', some (.ref W), v12, v13, v14', v15, v16, v17, v18, v19, v20, v21, v22] ∧ Jar K H' j c ∧ But j H16 H')
        ⟨v12, v15, v16, v17, v19, v21, v22, rfl, J16, But.refl⟩ ?_ ?_ ?_⟩
      · rintro n σ H' _ ⟨_, _, _, _, _, _, _, _, _, B'⟩
        exact SqL.of (B' _ _ hM2 M2j)
      · rintro n x σ H' hx ⟨v12, v15, v16, v17, v19, v21, v22, rfl, J', B'⟩
        obtain ⟨wq, wy, rfl, hwq, okw⟩ := WyV.but _ _ _ J16 B' (hys x (List.mem_of_getElem? hx))
        obtain ⟨pa1, pa2, pa3⟩ := wy_parts gm okw
        -- page
        refine ⟨_, rfl, _, rfl, wq, wy.vs, rfl, SqT.of hwq, pa3, pa1, fun wp Ha hwp0 Sa hwp => ?_⟩
        refine ⟨j, c, wp, wy.vs.map part, rfl, J'.same Sa, hwp, by rw [List.length_map]; exact pa3, fun z hz => ⟨(pa2 z hz).wk, (pa2 z hz).len⟩, fun pg Hb hpg lpg Jb Bb => ?_⟩
        have Bab : But j H' Hb := (But.of Sa).trans Bb
        have ht1 := (B'.trans Bab).non J16 ht16 (fun _ h => by cases h)
        -- group
        refine ⟨_, rfl, _, rfl, j, c, t, ms.map V.str, rfl, Jb, .inr (SqT.of ht1), .inl (SqT.of ht1), fun g Hc Jc Bc hg hgj => ?_⟩
        -- what is read
        refine ⟨_, rfl, j, c, _, rfl, Jc, by decide, by decide, fun d5 Hd d50 d51 Jd Bd => ⟨rfl, _, rfl, ?_⟩⟩
        have hgd := Bd.sq Jc hg hgj
        refine two_reads rfl rfl lpg hgd fun v He Se hv => ?_
        rw [hpg, mow_wy okw] at hv
        have BHe : But j Hc He := Bd.trans (But.of Se)
        have Je : Jar K He j c := Jd.same Se
        have hwqe := (Bab.trans (Bc.trans BHe)).non J' hwq (fun _ h => by cases h)
        refine ⟨_, rfl, v, .ref wq, .tuple (wyD wy), rfl, hv, wy_dp hwqe, wy_sm wy, fun Hf Sf => ⟨_, rfl, iteF ?_⟩⟩
        have B16f : But j H16 Hf := (((B'.trans Bab).trans Bc).trans BHe).trans (But.of Sf)
        have Jf : Jar K Hf j c := Je.same Sf
        have hLf := B16f.non J16 hL16 (fun _ h => by cases h)
        have hRf := B16f.non J16 hR16 (fun _ h => by cases h)
        have htf := B16f.non J16 ht16 (fun _ h => by cases h)
        have hGf := B16f.lst J16 hG16
        have hwqf := Sf _ _ hwqe
        have perf : ∀ o, o ∈ ms → Per C L R Hf kl kr os o (Gf o) := fun o ho => (per16 o ho).but J16 B16f
        have hgf := (BHe.trans (But.of Sf)).sq Jc hg hgj
        have hgj' : SqT K Hf g (ms.map V.str) ∨ g ≠ j := hgj.elim (fun h => .inl ((BHe.trans (But.of Sf)).sqT Jc h)) .inr
        -- all pairs
        refine ⟨_, rfl, G, rfl, ⟨_, SqL.of hGf⟩, for_list (a := G) (xs := os.map V.str) (fun n σ H' => ∃ (v17 v19 v21 v22 : Option V), σ = [some (.ref a), some (.ref j), some (.int (0 + (i : Int))), none, some (.ref p), some (.str odd), some (.ref t), some (.ref G), some (.ref L), some (.ref R), v10', some (.ref W), some (.ref wq), v13, v14', some (.str pg), some (.ref g), v17, v18, v19, v20, v21, v22] ∧ Jar K H' j c ∧ But j Hf H')
          ⟨v17, v19, v21, v22, rfl, Jf, But.refl⟩ ?_ ?_ ?_⟩
        · rintro n σ Hx _ ⟨_, _, _, _, _, _, Bx⟩
          exact SqL.of (Bx.lst Jf hGf)
        · rintro n x σ Hx hx ⟨v17, v19, v21, v22, rfl, Jx, Bx⟩
          obtain ⟨bs, hbs, rfl⟩ := List.mem_map.mp (List.mem_of_getElem? hx)
          refine ⟨_, rfl, G, rfl, ⟨_, SqL.of (Bx.lst Jf hGf)⟩, for_list (a := G) (xs := os.map V.str) (fun n σ H' => ∃ (v19 v21 v22 : Option V), σ = [some (.ref a), some (.ref j), some (.int (0 + (i : Int))), none, some (.ref p), some (.str odd), some (.ref t), some (.ref G), some (.ref L), some (.ref R), v10', some (.ref W), some (.ref wq), v13, v14', some (.str pg), some (.ref g), some (.str bs), v18, v19, v20, v21, v22] ∧ Jar K H' j c ∧ But j Hf H')
            ⟨v19, v21, v22, rfl, Jx, Bx⟩ ?_ ?_ ?_⟩
          · rintro n σ Hy _ ⟨_, _, _, _, _, By⟩
            exact SqL.of (By.lst Jf hGf)
          · rintro n x σ Hy hx ⟨v19, v21, v22, rfl, Jy, By⟩
            obtain ⟨gl, hgl, rfl⟩ := List.mem_map.mp (List.mem_of_getElem? hx)
            refine ⟨_, rfl, _, rfl, rfl, _, rfl, ?_⟩
            refine ite2 (fun _ => ?_) (fun _ => ?_)
            · have hLy := By.non Jf hLf (fun _ h => by cases h)
              have hRy := By.non Jf hRf (fun _ h => by cases h)
              have hty := By.non Jf htf (fun _ h => by cases h)
              have hwy := By.non Jf hwqf (fun _ h => by cases h)
              have pery : ∀ o, o ∈ ms → Per C L R Hy kl kr os o (Gf o) := fun o ho => (perf o ho).but Jf By
              have hgy := By.sq Jf hgf hgj'
              have hgjy : SqT K Hy g (ms.map V.str) ∨ g ≠ j := hgj'.elim (fun h => .inl (By.sqT Jf h)) .inr
              -- due
              refine ⟨_, rfl, _, rfl, _, rfl, _, rfl, _, rfl, wq, wy, R, kr, t, ms, gl, bs, Gf, rfl, SqT.of hwy, ok1 okw, hRy, SqT.of hty, by omega, fun o ho => (pery o ho).ranked hgl hbs, ok2 okw, fun Hz Sz => ?_⟩
              have Jz := Jy.same Sz
              refine ⟨fun σ H' => σ = [some (.ref a), some (.ref j), some (.int (0 + (i : Int))), none, some (.ref p), some (.str odd), some (.ref t), some (.ref G), some (.ref L), some (.ref R), v10', some (.ref W), some (.ref wq), v13, v14', some (.str pg), some (.ref g), some (.str bs), v18, some (.str gl), v20, some (.bl (prf wy ms (fun o => rk (Gf o)) gl bs)), some (.bl (prf wy ms (fun o => rk (Gf o)) gl bs))] ∧ Jar K H' j c ∧ But j Hf H', ?_, ?_⟩
              · refine ⟨_, rfl, j, c, _, rfl, Jz, by decide, by decide, fun d6 Hu d60 d61 Ju Bu => ⟨_, _, rfl, rfl, _, rfl, ?_⟩⟩
                have BU : But j Hy Hu := (But.of Sz).trans Bu
                have hLu := BU.non Jy hLy (fun _ h => by cases h)
                have hwu := BU.non Jy hwy (fun _ h => by cases h)
                have hgu := BU.sq Jy hgy hgjy
                have peru : ∀ o, o ∈ ms → Per C L R Hu kl kr os o (Gf o) := fun o ho => (pery o ho).but Jy BU
                have stay : ∀ {l : Addr}, Hu l = none → Same Hu (upd Hu l (.dK kl)) := fun h => same_new h
                have perl : ∀ {l : Addr}, Hu l = none → ∀ o, o ∈ ms → Tasted C (upd Hu l (.dK kl)) kl Gf gl bs o := fun h o ho => ((peru o ho).but Ju (But.of (stay h))).tasted hgl hbs
                refine ite2 (fun _ => ?_) (fun _ => ?_)
                · refine ⟨_, rfl, _, rfl, L, kl, rfl, .inl hLu, fun l hl => ⟨_, rfl, _, rfl, _, rfl, wq, wy, l, kl, g, ms, gl, bs, Gf, rfl, SqT.of (stay hl _ _ hwu), ok1 okw, upd_same, hgu.elim (fun h => .inl ((stay hl).seq h)) (fun h => .inr (Same.sqT (stay hl) h)), by omega, perl hl, ok2 okw, fun Hi Si => ?_⟩⟩
                  exact ⟨rfl, (Ju.same (stay hl)).same Si, By.trans (BU.trans (But.of ((stay hl).trans Si)))⟩
                · refine ⟨_, rfl, _, rfl, _, rfl, _, rfl, L, kl, rfl, .inl hLu, fun l hl => ⟨_, rfl, wq, wy, l, kl, g, ms, gl, bs, Gf, rfl, SqT.of (stay hl _ _ hwu), ok1 okw, upd_same, hgu.elim (fun h => .inl ((stay hl).seq h)) (fun h => .inr (Same.sqT (stay hl) h)), by omega, perl hl, ok2 okw, fun Hi Si => ?_⟩⟩
                  exact ⟨rfl, (Ju.same (stay hl)).same Si, By.trans (BU.trans (But.of ((stay hl).trans Si)))⟩
              · rintro σ Hv ⟨rfl, Jv, Bv⟩
                refine ⟨_, rfl, _, rfl, .bl _, .bl _, .bool _, rfl, .bl _, .bl _, .bl _, fun Hw Sw => ⟨_, rfl, iteF ?_⟩⟩
                exact ⟨_, _, _, rfl, Jv.same Sw, Bv.trans (But.of Sw)⟩
            · exact ⟨_, v21, v22, rfl, Jy, By⟩
          · rintro σ Hy ⟨v19, v21, v22, rfl, Jy, By⟩
            exact ⟨_, v19, v21, v22, rfl, Jy, By⟩
        · rintro σ Hx ⟨v17, v19, v21, v22, rfl, Jx, Bx⟩
          have hgx := Bx.sq Jf hgf hgj'
          have htx := Bx.non Jf htf (fun _ h => by cases h)
          have cpm : ∀ z, z ∈ ms → Cp z := fun z hz => wd_cp (wm z hz).1
          refine ⟨_, rfl, g, _, rfl, hgx, fun l1 h1 => ⟨_, rfl, t, _, rfl, .inr (SqT.of (same_new h1 _ _ htx)), fun l2 h2 => ?_⟩⟩
          refine ⟨.list (ms.map .str), .list (ms.map .str), .lst (SqL.of (same_new h2 _ _ upd_same)) (dp_strs ms), .lst (SqL.of upd_same) (dp_strs ms), strs_shaped cpm, strs_shaped cpm, _, rfl, ?_⟩
          have e : (!PyData.eqv (.list (ms.map .str)) (.list (ms.map .str))) = false := by
            rw [PyData.eqv, eqv_strs]
            rfl
          rw [e]
          refine iteF ⟨_, _, _, v17, v19, v21, v22, rfl, (Jx.new h1).new h2, B16f.trans (Bx.trans (But.of ((same_new h1).trans (same_new h2))))⟩
      rintro σ H17 ⟨v12, v15, v16, v17, v19, v21, v22, rfl, J17, B17⟩
      have ht17 := B17.non J16 ht16 (fun _ h => by cases h)
      have hp17 := B17.lst J16 hp16
      have gf : ∀ z, z ∈ fs → Gd z := fun z hz => (wf z hz).1.gd (by have := (wf z hz).2; omega)
      have nz : ("Zed" : Str) ∉ ms := fun h => by
        obtain ⟨cc, r, e, lc, _⟩ := (wm _ h).1.ex
        have e2 : (("Zed" : Str).cps.toList) = 90 :: [101, 100] := by decide +kernel
        rw [e2] at e
        injection e with e3 _
        rw [← e3] at lc
        exact absurd lc (by decide)
      -- the wrong words
      refine ⟨_, rfl, by decide, by decide, ?_⟩
      refine for_range (n := 5) (fun n σ H' => ∃ (v13 v15 v18 : Option V), σ = [some (.ref a), some (.ref j), some (.int (0 + (i : Int))), none, some (.ref p), some (.str odd), some (.ref t), some (.ref G), some (.ref L), some (.ref R), v10', some (.ref W), v12, v13, v14', v15, v16, v17, v18, v19, v20, v21, v22] ∧ Jar K H' j c ∧ But j H17 H') ⟨v13, v15, v18, rfl, J17, But.refl⟩ ?_ ?_
      · rintro n σ H' hn ⟨v13, v15, v18, rfl, J', B'⟩
        refine ⟨_, rfl, _, rfl, _, rfl, j, c, p, t, fs, ms, rfl, J', B'.lst J17 hp17, SqT.of (B'.non J17 ht17 (fun _ h => by cases h)), by omega, by omega, by omega, gf, gm, nz, fun wq ws Hx hls lws mw gw Jx Bx => ?_⟩
        obtain ⟨wq', e, hwq⟩ := hls
        cases e
        refine ⟨_, rfl, _, rfl, j, c, wq, ws, rfl, Jx, hwq, lws, fun z hz => ⟨(gw z hz).wk, (gw z hz).len⟩, fun pg Hy hpg lpg Jy By => ?_⟩
        have ht1 := (B'.trans (Bx.trans By)).non J17 ht17 (fun _ h => by cases h)
        refine ⟨_, rfl, _, rfl, _, rfl, j, c, t, ms.map V.str, rfl, Jy, .inr (SqT.of ht1), .inl (SqT.of ht1), fun g Hz Jz Bz hg hgj => ?_⟩
        refine ⟨pg, g, ms, rfl, lpg, hg, fun v Hw Sw hv => ?_⟩
        rw [hpg, mw] at hv
        have hv : v = .non := hv
        subst hv
        refine ⟨rfl, _, rfl, iteF ?_⟩
        exact ⟨_, _, _, rfl, Jz.same Sw, B'.trans (Bx.trans (By.trans (Bz.trans (But.of Sw))))⟩
      · rintro σ H' ⟨v13, v15, v18, rfl, J', _⟩
        exact ⟨_, _, _, _, _, _, _, _, _, _, _, _, _, _, _, _, _, _, _, _, rfl, J'⟩
    · rintro σ H2 ⟨v2, v4, v5, v6, v7, v8, v9, v10, v11, v12, v13, v14, v15, v16, v17, v18, v19, v20, v21, v22, rfl, J2⟩
      intro D hD
      refine pairs2 ?_
      refine lit_taste "a" "b" (List.Perm.refl _) fun tx rx H3 ttx rx0 tx0 S3 => ?_
      refine lit_taste "b" "a" (by decide +kernel) fun ty ry H4 tty ry0 ty0 S4 => ?_
      have hD3 := S3 _ _ (show (upd H2 D (.dK [])) D = some (.dK []) from upd_same)
      have hD4 := S4 _ _ hD3
      have rxD : rx ≠ D := fun e => by rw [e, upd_same] at rx0; cases rx0
      have txD : tx ≠ D := fun e => by rw [e, upd_same] at tx0; cases tx0
      have ryD : ry ≠ D := fun e => by rw [e, hD3] at ry0; cases ry0
      have tyD : ty ≠ D := fun e => by rw [e, hD3] at ty0; cases ty0
      refine ⟨hD4, [(.inr "x", .ref tx), (.inr "y", .ref ty)], rfl, (by show 2 ≤ 15; decide), ?_⟩
      have ttx4 := ttx.same S4
      have kx : valV (mergeK [] [((.inr "x" : Key), V.ref tx), (.inr "y", .ref ty)]) (.inr "x") = some (.ref tx) := by
        show valV (putK (putK ([] : List (Key × V)) (.inr "x") (.ref tx)) (.inr "y") (.ref ty)) (.inr "x") = _
        rw [valV_put, if_neg (by decide +kernel), valV_put, if_pos rfl]
      have ky : valV (mergeK [] [((.inr "x" : Key), V.ref tx), (.inr "y", .ref ty)]) (.inr "y") = some (.ref ty) := by
        show valV (putK (putK ([] : List (Key × V)) (.inr "x") (.ref tx)) (.inr "y") (.ref ty)) (.inr "y") = _
        rw [valV_put, if_pos rfl]
      generalize mergeK [] [((.inr "x" : Key), V.ref tx), (.inr "y", .ref ty)] = kvs at kx ky
      have hD5 : (upd H4 D (.dK kvs)) D = some (.dK kvs) := upd_same
      have tt5x : TasteR C (upd H4 D (.dK kvs)) tx rx (fixG "x") := by
        obtain ⟨dx, fs, kv, hp, f2, hr, q⟩ := ttx4
        exact ⟨dx, fs, kv, by rw [upd_ne txD]; exact hp, f2, by rw [upd_ne rxD]; exact hr, q⟩
      have tt5y : TasteR C (upd H4 D (.dK kvs)) ty ry (fixG "y") := by
        obtain ⟨dx, fs, kv, hp, f2, hr, q⟩ := tty
        exact ⟨dx, fs, kv, by rw [upd_ne tyD]; exact hp, f2, by rw [upd_ne ryD]; exact hr, q⟩
      generalize upd H4 D (.dK kvs) = H5 at hD5 tt5x tt5y ⊢
      have tasted : ∀ {H' : Hp} {d c : Str}, Same H5 H' → (d = "a" ∨ d = "b") → (c = "a" ∨ c = "b") → ∀ o, o ∈ [("x" : Str), "y"] → Tasted C H' kvs fixG d c o := fun {H' d c} e hd hc o ho => by
        have mx : ∀ z : Str, (z = "a" ∨ z = "b") → z ∈ (fixG "x").flatten ∧ z ∈ (fixG "y").flatten := fun z hz => by
          rcases hz with rfl | rfl <;> decide +kernel
        simp only [List.mem_cons, List.not_mem_nil, or_false] at ho
        rcases ho with rfl | rfl
        · exact ⟨tx, kx, ⟨rx, tt5x.same e⟩, (mx d hd).1, (mx c hc).1⟩
        · exact ⟨ty, ky, ⟨ry, tt5y.same e⟩, (mx d hd).2, (mx c hc).2⟩
      refine ⟨by show 1 ≤ sizeLine; decide, fun q1 h1 => ⟨_, rfl, (by show 2 ≤ sizeLine; decide), fun q2 h2 => ?_⟩⟩
      have S1 := (same_new (o := .tup [.str "most"]) h1).trans (same_new (o := .tup [.str "x", .str "y"]) h2)
      refine ⟨q1, .one "most", D, kvs, q2, ["x", "y"], "a", "b", fixG, rfl, SqT.of (same_new h2 _ _ upd_same), (fun k e => by cases e; decide +kernel), S1 _ _ hD5, .inr (SqT.of upd_same), by decide, tasted S1 (.inl rfl) (.inr rfl), (fun y e => by cases e), fun Ha Sa => ?_⟩
      have SA := S1.trans Sa
      refine ⟨by show 2 ≤ sizeLine; decide, fun q3 h3 => ⟨_, rfl, (by show 2 ≤ sizeLine; decide), fun q4 h4 => ?_⟩⟩
      have S2 := (same_new (o := .tup [.str "head", .str "y"]) h3).trans (same_new (o := .lst [.str "x", .str "y"]) h4)
      refine ⟨q3, .hd "y", D, kvs, q4, ["x", "y"], "b", "a", fixG, rfl, SqT.of (same_new h4 _ _ upd_same), (fun k e => by cases e), S2 _ _ (SA _ _ hD5), .inl (SqL.of upd_same), by decide, tasted (SA.trans S2) (.inr rfl) (.inl rfl), (fun y e => by cases e; decide +kernel), fun Hb Sb => ?_⟩
      have e1 : prf (.one "most") ["x", "y"] (fun o => rk (fixG o)) "a" "b" = false := by decide +kernel
      have e2 : prf (.hd "y") ["x", "y"] (fun o => rk (fixG o)) "b" "a" = true := by decide +kernel
      rw [e1, e2]
      refine ⟨by show 2 ≤ sizeLine; decide, fun q5 h5 => ⟨by show 2 ≤ sizeLine; decide, fun q6 h6 => ?_⟩⟩
      refine ⟨.ref q5, .ref q6, .list [.bool false, .bool true], rfl, .lst (SqL.of (same_new h6 _ _ upd_same)) (.cons (.bl _) (.cons (.bl _) .nil)), .lst (SqL.of upd_same) (.cons (.bl _) (.cons (.bl _) .nil)), .list (fun d hd => ?_) (by show 2 < 1000000; decide), fun Hc Sc => ⟨_, rfl, iteF ?_⟩⟩
      · simp only [List.mem_cons, List.not_mem_nil, or_false] at hd
        rcases hd with rfl | rfl <;> exact .bl _
      -- the end
      refine ⟨by show 1 ≤ sizeLine; decide, fun q7 h7 => ?_⟩
      refine ⟨"far  9", q7, ["x"], rfl, by decide +kernel, .inl (SqL.of upd_same), fun v Hd Sd hv => ?_⟩
      rw [words_far, mow_far] at hv
      refine ⟨by show 2 ≤ sizeLine; decide, fun q8 h8 => ?_⟩
      refine ⟨v, .ref q8, .tuple [.str "far", .int 9], rfl, Dp.same (same_new h8) hv, .tup (SqT.of upd_same) (.cons (.str _) (.cons (.int _) .nil)), .tuple (fun d hd => ?_) (by show 2 < 1000000; decide), fun He Se => ⟨_, rfl, iteT ?_⟩⟩
      · simp only [List.mem_cons, List.not_mem_nil, or_false] at hd
        rcases hd with rfl | rfl
        · exact .str _
        · exact .int _
      refine ⟨by show 1 ≤ sizeLine; decide, fun q9 h9 => ?_⟩
      refine ⟨"head x", q9, ["y"], rfl, by decide +kernel, .inr (SqT.of upd_same), fun v Hf Sf hv => ?_⟩
      rw [words_head, mow_head] at hv
      have hv : v = .non := hv
      subst hv
      exact ⟨.non, .non, .none, rfl, .non, .non, .non, fun Hg Sg => k Hg⟩
end Bq
set_option Elab.async false
set_option linter.all false
set_option maxRecDepth 100000
set_option maxHeartbeats 4000000
namespace Bq
open PySem L2 Cw
/-- a def among the names of the top -/
structure Put (K : PySem.W.Frag) (x : Str) (st : Stmt) (f : Addr) (fd : FuncData) : Prop where
  at_ : PySem.W.nsIn K mainGlobals x = some (some (.ref f))
  fn : Fun K x x st f fd
variable {P : Program} {w : World} {K : PySem.W.Frag} {mg : Str → Option Value} {base : Heap}
theorem dn_of {h : Heap} {k : Nat} {x : Str} {st : Stmt} {f : Addr} {fd : FuncData} {ps : List Str} {sp : Sp} (X : K.In h) (G : h.Ns mainGlobals mg) (p : Put K x st f fd) (b : Binds K fd ps []) (ok : FnOk P w K mg base CX0 k f fd ps sp) : ∃ D : Dn P w K mg base k x ps sp, D.f = f ∧ D.fd = fd :=
  ⟨⟨f, fd, ok, PySem.W.mg_of X G p.at_, p.fn.kp, b⟩, rfl, rfl⟩

theorem all_mk {l : PySem.W.OpenLaw} {w : World} {K : PySem.W.Frag} {h : Heap} {mg : Str → Option Value} {fa C fP fS fjar fdraw fpick fmix fdrs fsam fkpt fwrd fwds ftms ftrs frks fspr fway ftks fwrg fofw fman frdm fprf flaw fini frnk fabv : Addr} (X : K.In h) (G : h.Ns mainGlobals mg) (hfa : mg "law" = some (.ref fa))
    {odP odS odjar anjar oddraw andraw odpick anpick odmix anmix oddrs andrs odsam ansam odkpt ankpt odwrd anwrd odwds anwds odtms antms odtrs antrs odrks anrks odspr anspr odway anway odtks antks odwrg anwrg odofw anofw odman anman odrdm anrdm odprf anprf odlaw anlaw odini anini odrnk anrnk odabv anabv : Option Addr} {nP nS : Nat} {itP itS : Array Value} {slP slS sljar sldraw slpick slmix sldrs slsam slkpt slwrd slwds sltms sltrs slrks slspr slway sltks slwrg slofw slman slrdm slprf sllaw slini slrnk slabv : Array (Option Value)} {ocjar kVjar dcjar pmjar cdjar ctjar ocdraw kVdraw dcdraw pmdraw cddraw ctdraw ocpick kVpick dcpick pmpick cdpick ctpick ocmix kVmix dcmix pmmix cdmix ctmix ocdrs kVdrs dcdrs pmdrs cddrs ctdrs ocsam kVsam dcsam pmsam cdsam ctsam ockpt kVkpt dckpt pmkpt cdkpt ctkpt ocwrd kVwrd dcwrd pmwrd cdwrd ctwrd ocwds kVwds dcwds pmwds cdwds ctwds octms kVtms dctms pmtms cdtms cttms octrs kVtrs dctrs pmtrs cdtrs cttrs ocrks kVrks dcrks pmrks cdrks ctrks ocspr kVspr dcspr pmspr cdspr ctspr ocway kVway dcway pmway cdway ctway octks kVtks dctks pmtks cdtks cttks ocwrg kVwrg dcwrg pmwrg cdwrg ctwrg ocofw kVofw dcofw pmofw cdofw ctofw ocman kVman dcman pmman cdman ctman ocrdm kVrdm dcrdm pmrdm cdrdm ctrdm ocprf kVprf dcprf pmprf cdprf ctprf oclaw kVlaw dclaw pmlaw cdlaw ctlaw ocini kVini dcini pmini cdini ctini ocrnk kVrnk dcrnk pmrnk cdrnk ctrnk ocabv kVabv dcabv pmabv cdabv ctabv : Value}
    (ajar : PySem.W.nsIn K mainGlobals "_law_jar" = some (some (.ref fjar))) (ljar : K.lookup fjar = some ⟨ocjar, odjar, .func (PySem.W.fnOf "_law_jar" "_law_jar" (defArgs sL_jar) (defBody sL_jar) (defScope sL_jar) .none kVjar dcjar pmjar anjar cdjar ctjar), sljar⟩) (cjar : PySem.W.codeIn K cdjar "_law_jar" = true) (kjar : PySem.W.keepIn K (.ref fjar) = true)
    (adraw : PySem.W.nsIn K mainGlobals "_law_draw" = some (some (.ref fdraw))) (ldraw : K.lookup fdraw = some ⟨ocdraw, oddraw, .func (PySem.W.fnOf "_law_draw" "_law_draw" (defArgs sL_draw) (defBody sL_draw) (defScope sL_draw) .none kVdraw dcdraw pmdraw andraw cddraw ctdraw), sldraw⟩) (cdraw : PySem.W.codeIn K cddraw "_law_draw" = true) (kdraw : PySem.W.keepIn K (.ref fdraw) = true)
    (apick : PySem.W.nsIn K mainGlobals "_law_pick" = some (some (.ref fpick))) (lpick : K.lookup fpick = some ⟨ocpick, odpick, .func (PySem.W.fnOf "_law_pick" "_law_pick" (defArgs sL_pick) (defBody sL_pick) (defScope sL_pick) .none kVpick dcpick pmpick anpick cdpick ctpick), slpick⟩) (cpick : PySem.W.codeIn K cdpick "_law_pick" = true) (kpick : PySem.W.keepIn K (.ref fpick) = true)
    (amix : PySem.W.nsIn K mainGlobals "_law_mixed" = some (some (.ref fmix))) (lmix : K.lookup fmix = some ⟨ocmix, odmix, .func (PySem.W.fnOf "_law_mixed" "_law_mixed" (defArgs sL_mixed) (defBody sL_mixed) (defScope sL_mixed) .none kVmix dcmix pmmix anmix cdmix ctmix), slmix⟩) (cmix : PySem.W.codeIn K cdmix "_law_mixed" = true) (kmix : PySem.W.keepIn K (.ref fmix) = true)
    (adrs : PySem.W.nsIn K mainGlobals "_law_dress" = some (some (.ref fdrs))) (ldrs : K.lookup fdrs = some ⟨ocdrs, oddrs, .func (PySem.W.fnOf "_law_dress" "_law_dress" (defArgs sL_dress) (defBody sL_dress) (defScope sL_dress) .none kVdrs dcdrs pmdrs andrs cddrs ctdrs), sldrs⟩) (cdrs : PySem.W.codeIn K cddrs "_law_dress" = true) (kdrs : PySem.W.keepIn K (.ref fdrs) = true)
    (asam : PySem.W.nsIn K mainGlobals "_law_same" = some (some (.ref fsam))) (lsam : K.lookup fsam = some ⟨ocsam, odsam, .func (PySem.W.fnOf "_law_same" "_law_same" (defArgs sL_same) (defBody sL_same) (defScope sL_same) .none kVsam dcsam pmsam ansam cdsam ctsam), slsam⟩) (csam : PySem.W.codeIn K cdsam "_law_same" = true) (ksam : PySem.W.keepIn K (.ref fsam) = true)
    (akpt : PySem.W.nsIn K mainGlobals "_law_kept_words" = some (some (.ref fkpt))) (lkpt : K.lookup fkpt = some ⟨ockpt, odkpt, .func (PySem.W.fnOf "_law_kept_words" "_law_kept_words" (defArgs sL_kept_words) (defBody sL_kept_words) (defScope sL_kept_words) .none kVkpt dckpt pmkpt ankpt cdkpt ctkpt), slkpt⟩) (ckpt : PySem.W.codeIn K cdkpt "_law_kept_words" = true) (kkpt : PySem.W.keepIn K (.ref fkpt) = true)
    (awrd : PySem.W.nsIn K mainGlobals "_law_word" = some (some (.ref fwrd))) (lwrd : K.lookup fwrd = some ⟨ocwrd, odwrd, .func (PySem.W.fnOf "_law_word" "_law_word" (defArgs sL_word) (defBody sL_word) (defScope sL_word) .none kVwrd dcwrd pmwrd anwrd cdwrd ctwrd), slwrd⟩) (cwrd : PySem.W.codeIn K cdwrd "_law_word" = true) (kwrd : PySem.W.keepIn K (.ref fwrd) = true)
    (awds : PySem.W.nsIn K mainGlobals "_law_words" = some (some (.ref fwds))) (lwds : K.lookup fwds = some ⟨ocwds, odwds, .func (PySem.W.fnOf "_law_words" "_law_words" (defArgs sL_words) (defBody sL_words) (defScope sL_words) .none kVwds dcwds pmwds anwds cdwds ctwds), slwds⟩) (cwds : PySem.W.codeIn K cdwds "_law_words" = true) (kwds : PySem.W.keepIn K (.ref fwds) = true)
    (atms : PySem.W.nsIn K mainGlobals "_law_teams" = some (some (.ref ftms))) (ltms : K.lookup ftms = some ⟨octms, odtms, .func (PySem.W.fnOf "_law_teams" "_law_teams" (defArgs sL_teams) (defBody sL_teams) (defScope sL_teams) .none kVtms dctms pmtms antms cdtms cttms), sltms⟩) (ctms : PySem.W.codeIn K cdtms "_law_teams" = true) (ktms : PySem.W.keepIn K (.ref ftms) = true)
    (atrs : PySem.W.nsIn K mainGlobals "_law_tiers" = some (some (.ref ftrs))) (ltrs : K.lookup ftrs = some ⟨octrs, odtrs, .func (PySem.W.fnOf "_law_tiers" "_law_tiers" (defArgs sL_tiers) (defBody sL_tiers) (defScope sL_tiers) .none kVtrs dctrs pmtrs antrs cdtrs cttrs), sltrs⟩) (ctrs : PySem.W.codeIn K cdtrs "_law_tiers" = true) (ktrs : PySem.W.keepIn K (.ref ftrs) = true)
    (arks : PySem.W.nsIn K mainGlobals "_law_ranks" = some (some (.ref frks))) (lrks : K.lookup frks = some ⟨ocrks, odrks, .func (PySem.W.fnOf "_law_ranks" "_law_ranks" (defArgs sL_ranks) (defBody sL_ranks) (defScope sL_ranks) .none kVrks dcrks pmrks anrks cdrks ctrks), slrks⟩) (crks : PySem.W.codeIn K cdrks "_law_ranks" = true) (krks : PySem.W.keepIn K (.ref frks) = true)
    (aspr : PySem.W.nsIn K mainGlobals "_law_spread" = some (some (.ref fspr))) (lspr : K.lookup fspr = some ⟨ocspr, odspr, .func (PySem.W.fnOf "_law_spread" "_law_spread" (defArgs sL_spread) (defBody sL_spread) (defScope sL_spread) .none kVspr dcspr pmspr anspr cdspr ctspr), slspr⟩) (cspr : PySem.W.codeIn K cdspr "_law_spread" = true) (kspr : PySem.W.keepIn K (.ref fspr) = true)
    (away : PySem.W.nsIn K mainGlobals "_law_way_words" = some (some (.ref fway))) (lway : K.lookup fway = some ⟨ocway, odway, .func (PySem.W.fnOf "_law_way_words" "_law_way_words" (defArgs sL_way_words) (defBody sL_way_words) (defScope sL_way_words) .none kVway dcway pmway anway cdway ctway), slway⟩) (cway : PySem.W.codeIn K cdway "_law_way_words" = true) (kway : PySem.W.keepIn K (.ref fway) = true)
    (atks : PySem.W.nsIn K mainGlobals "_law_takes" = some (some (.ref ftks))) (ltks : K.lookup ftks = some ⟨octks, odtks, .func (PySem.W.fnOf "_law_takes" "_law_takes" (defArgs sL_takes) (defBody sL_takes) (defScope sL_takes) .none kVtks dctks pmtks antks cdtks cttks), sltks⟩) (ctks : PySem.W.codeIn K cdtks "_law_takes" = true) (ktks : PySem.W.keepIn K (.ref ftks) = true)
    (awrg : PySem.W.nsIn K mainGlobals "_law_wrong_words" = some (some (.ref fwrg))) (lwrg : K.lookup fwrg = some ⟨ocwrg, odwrg, .func (PySem.W.fnOf "_law_wrong_words" "_law_wrong_words" (defArgs sL_wrong_words) (defBody sL_wrong_words) (defScope sL_wrong_words) .none kVwrg dcwrg pmwrg anwrg cdwrg ctwrg), slwrg⟩) (cwrg : PySem.W.codeIn K cdwrg "_law_wrong_words" = true) (kwrg : PySem.W.keepIn K (.ref fwrg) = true)
    (aofw : PySem.W.nsIn K mainGlobals "words_of" = some (some (.ref fofw))) (lofw : K.lookup fofw = some ⟨ocofw, odofw, .func (PySem.W.fnOf "words_of" "words_of" (defArgs swords_of) (defBody swords_of) (defScope swords_of) .none kVofw dcofw pmofw anofw cdofw ctofw), slofw⟩) (cofw : PySem.W.codeIn K cdofw "words_of" = true) (kofw : PySem.W.keepIn K (.ref fofw) = true)
    (aman : PySem.W.nsIn K mainGlobals "manner_of_words" = some (some (.ref fman))) (lman : K.lookup fman = some ⟨ocman, odman, .func (PySem.W.fnOf "manner_of_words" "manner_of_words" (defArgs smanner_of_words) (defBody smanner_of_words) (defScope smanner_of_words) .none kVman dcman pmman anman cdman ctman), slman⟩) (cman : PySem.W.codeIn K cdman "manner_of_words" = true) (kman : PySem.W.keepIn K (.ref fman) = true)
    (ardm : PySem.W.nsIn K mainGlobals "read_manner" = some (some (.ref frdm))) (lrdm : K.lookup frdm = some ⟨ocrdm, odrdm, .func (PySem.W.fnOf "read_manner" "read_manner" (defArgs sread_manner) (defBody sread_manner) (defScope sread_manner) .none kVrdm dcrdm pmrdm anrdm cdrdm ctrdm), slrdm⟩) (crdm : PySem.W.codeIn K cdrdm "read_manner" = true) (krdm : PySem.W.keepIn K (.ref frdm) = true)
    (aprf : PySem.W.nsIn K mainGlobals "prefers" = some (some (.ref fprf))) (lprf : K.lookup fprf = some ⟨ocprf, odprf, .func (PySem.W.fnOf "prefers" "prefers" (defArgs sprefers) (defBody sprefers) (defScope sprefers) .none kVprf dcprf pmprf anprf cdprf ctprf), slprf⟩) (cprf : PySem.W.codeIn K cdprf "prefers" = true) (kprf : PySem.W.keepIn K (.ref fprf) = true)
    (alaw : PySem.W.nsIn K mainGlobals "law" = some (some (.ref flaw))) (llaw : K.lookup flaw = some ⟨oclaw, odlaw, .func (PySem.W.fnOf "law" "law" (defArgs slaw) (defBody slaw) (defScope slaw) .none kVlaw dclaw pmlaw anlaw cdlaw ctlaw), sllaw⟩) (claw : PySem.W.codeIn K cdlaw "law" = true) (klaw : PySem.W.keepIn K (.ref flaw) = true)
    (aini : PySem.W.findIn K (.ref C) "__init__" = some (some (.ref fini))) (iini : PySem.W.isFn K (.ref fini) = true) (lini : K.lookup fini = some ⟨ocini, odini, .func (PySem.W.fnOf "__init__" "Taste.__init__" (defArgs sTaste___init__) (defBody sTaste___init__) (defScope sTaste___init__) .none kVini dcini pmini anini cdini ctini), slini⟩) (cini : PySem.W.codeIn K cdini "Taste.__init__" = true) (kini : PySem.W.keepIn K (.ref fini) = true)
    (arnk : PySem.W.findIn K (.ref C) "rank" = some (some (.ref frnk))) (irnk : PySem.W.isFn K (.ref frnk) = true) (lrnk : K.lookup frnk = some ⟨ocrnk, odrnk, .func (PySem.W.fnOf "rank" "Taste.rank" (defArgs sTaste_rank) (defBody sTaste_rank) (defScope sTaste_rank) .none kVrnk dcrnk pmrnk anrnk cdrnk ctrnk), slrnk⟩) (crnk : PySem.W.codeIn K cdrnk "Taste.rank" = true) (krnk : PySem.W.keepIn K (.ref frnk) = true)
    (aabv : PySem.W.findIn K (.ref C) "above" = some (some (.ref fabv))) (iabv : PySem.W.isFn K (.ref fabv) = true) (labv : K.lookup fabv = some ⟨ocabv, odabv, .func (PySem.W.fnOf "above" "Taste.above" (defArgs sTaste_above) (defBody sTaste_above) (defScope sTaste_above) .none kVabv dcabv pmabv anabv cdabv ctabv), slabv⟩) (cabv : PySem.W.codeIn K cdabv "Taste.above" = true) (kabv : PySem.W.keepIn K (.ref fabv) = true)
    (aC : PySem.W.nsIn K mainGlobals "Taste" = some (some (.ref C))) (pgC : PySem.W.plainGet K C Str.empty = true) (hdC : PySem.W.hasDictIn K C = true) (poC : PySem.W.plainOver K C = true) (saC : PySem.W.findIn K (.ref C) "__setattr__" = some (some (.builtin "object.__setattr__"))) (mkC : PySem.W.makesIn K C = true) (kcC : PySem.W.keepIn K (.ref C) = true)
    (nCl : PySem.W.findIn K (.ref C) "classes" = some none) (nRk : PySem.W.findIn K (.ref C) "_ranks" = some none)
    (aP : PySem.W.nsIn K mainGlobals "PLAIN" = some (some (.ref fP))) (lP : K.lookup fP = some ⟨.type "tuple", odP, .seq itP nP, slP⟩) (vP : itP.size ≤ sizeLine ∧ Vals (plainW.map V.str) itP.toList)
    (aS : PySem.W.nsIn K mainGlobals "FAR_STEPS" = some (some (.ref fS))) (lS : K.lookup fS = some ⟨.type "tuple", odS, .seq itS nS, slS⟩) (vS : itS.size ≤ sizeLine ∧ Vals (stepW.map V.str) itS.toList)
    (z_len : PySem.W.nsIn K mainGlobals "len" = some none)
    (z_int : PySem.W.nsIn K mainGlobals "int" = some none)
    (z_str : PySem.W.nsIn K mainGlobals "str" = some none)
    (z_list : PySem.W.nsIn K mainGlobals "list" = some none)
    (z_tuple : PySem.W.nsIn K mainGlobals "tuple" = some none)
    (z_dict : PySem.W.nsIn K mainGlobals "dict" = some none)
    (z_range : PySem.W.nsIn K mainGlobals "range" = some none)
    (z_sorted : PySem.W.nsIn K mainGlobals "sorted" = some none)
    (z_all : PySem.W.nsIn K mainGlobals "all" = some none)
    (z_any : PySem.W.nsIn K mainGlobals "any" = some none)
    (z_enumerate : PySem.W.nsIn K mainGlobals "enumerate" = some none)
    (z_isinstance : PySem.W.nsIn K mainGlobals "isinstance" = some none)
    (z_bool : PySem.W.nsIn K mainGlobals "bool" = some none) :
    ∃ fd : FuncData, (∀ (s : Shared) (v : Value), BindsTo s fd ⟨[v], []⟩ [("script", v)]) ∧ ∀ base : Heap, K.In base → base.Ns mainGlobals mg → FnOk l.prog w K mg base CX0 6 fa fd ["script"] (spLaw K) := by
  have e := hfa.symm.trans (PySem.W.mg_of X G alaw)
  cases e

  have T : Bt mg := ⟨PySem.W.mg_none_of X G z_len, PySem.W.mg_none_of X G z_int, PySem.W.mg_none_of X G z_str, PySem.W.mg_none_of X G z_list, PySem.W.mg_none_of X G z_tuple, PySem.W.mg_none_of X G z_dict, PySem.W.mg_none_of X G z_range, PySem.W.mg_none_of X G z_sorted, PySem.W.mg_none_of X G z_all, PySem.W.mg_none_of X G z_any, PySem.W.mg_none_of X G z_enumerate, PySem.W.mg_none_of X G z_isinstance, PySem.W.mg_none_of X G z_bool⟩
  have Fjar := fun_mk (st := sL_jar) ljar cjar kjar
  have bjar := Fjar.binds (ps := ["script"]) fun _ _ _ _ _ _ us hl => match us, hl with | [_], _ => rfl
  have Fdraw := fun_mk (st := sL_draw) ldraw cdraw kdraw
  have bdraw := Fdraw.binds (ps := ["jar", "many"]) fun _ _ _ _ _ _ us hl => match us, hl with | [_, _], _ => rfl
  have Fpick := fun_mk (st := sL_pick) lpick cpick kpick
  have bpick := Fpick.binds (ps := ["jar", "menu"]) fun _ _ _ _ _ _ us hl => match us, hl with | [_, _], _ => rfl
  have Fmix := fun_mk (st := sL_mixed) lmix cmix kmix
  have bmix := Fmix.binds (ps := ["jar", "things"]) fun _ _ _ _ _ _ us hl => match us, hl with | [_, _], _ => rfl
  have Fdrs := fun_mk (st := sL_dress) ldrs cdrs kdrs
  have bdrs := Fdrs.binds (ps := ["jar", "things"]) fun _ _ _ _ _ _ us hl => match us, hl with | [_, _], _ => rfl
  have Fsam := fun_mk (st := sL_same) lsam csam ksam
  have bsam := Fsam.binds (ps := ["got", "due"]) fun _ _ _ _ _ _ us hl => match us, hl with | [_, _], _ => rfl
  have Fkpt := fun_mk (st := sL_kept_words) lkpt ckpt kkpt
  have bkpt := Fkpt.binds (ps := []) fun _ _ _ _ _ _ us hl => match us, hl with | [], _ => rfl
  have Fwrd := fun_mk (st := sL_word) lwrd cwrd kwrd
  have bwrd := Fwrd.binds (ps := ["jar", "taken"]) fun _ _ _ _ _ _ us hl => match us, hl with | [_, _], _ => rfl
  have Fwds := fun_mk (st := sL_words) lwds cwds kwds
  have bwds := Fwds.binds (ps := ["jar", "many"]) fun _ _ _ _ _ _ us hl => match us, hl with | [_, _], _ => rfl
  have Ftms := fun_mk (st := sL_teams) ltms ctms ktms
  have btms := Ftms.binds (ps := ["folk"]) fun _ _ _ _ _ _ us hl => match us, hl with | [_], _ => rfl
  have Ftrs := fun_mk (st := sL_tiers) ltrs ctrs ktrs
  have btrs := Ftrs.binds (ps := ["jar", "goals"]) fun _ _ _ _ _ _ us hl => match us, hl with | [_, _], _ => rfl
  have Frks := fun_mk (st := sL_ranks) lrks crks krks
  have brks := Frks.binds (ps := ["tiers"]) fun _ _ _ _ _ _ us hl => match us, hl with | [_], _ => rfl
  have Fspr := fun_mk (st := sL_spread) lspr cspr kspr
  have bspr := Fspr.binds (ps := ["jar", "words"]) fun _ _ _ _ _ _ us hl => match us, hl with | [_, _], _ => rfl
  have Fway := fun_mk (st := sL_way_words) lway cway kway
  have bway := Fway.binds (ps := ["way"]) fun _ _ _ _ _ _ us hl => match us, hl with | [_], _ => rfl
  have Ftks := fun_mk (st := sL_takes) ltks ctks ktks
  have btks := Ftks.binds (ps := ["way", "team", "ranks", "base", "goal"]) fun _ _ _ _ _ _ us hl => match us, hl with | [_, _, _, _, _], _ => rfl
  have Fwrg := fun_mk (st := sL_wrong_words) lwrg cwrg kwrg
  have bwrg := Fwrg.binds (ps := ["jar", "folk", "team"]) fun _ _ _ _ _ _ us hl => match us, hl with | [_, _, _], _ => rfl
  have Fofw := fun_mk (st := swords_of) lofw cofw kofw
  have bofw := Fofw.binds (ps := ["text"]) fun _ _ _ _ _ _ us hl => match us, hl with | [_], _ => rfl
  have Fman := fun_mk (st := smanner_of_words) lman cman kman
  have bman := Fman.binds (ps := ["words", "members"]) fun _ _ _ _ _ _ us hl => match us, hl with | [_, _], _ => rfl
  have Frdm := fun_mk (st := sread_manner) lrdm crdm krdm
  have brdm := Frdm.binds (ps := ["text", "members"]) fun _ _ _ _ _ _ us hl => match us, hl with | [_, _], _ => rfl
  have Fprf := fun_mk (st := sprefers) lprf cprf kprf
  have bprf := Fprf.binds (ps := ["manner", "tastes", "members", "d", "c"]) fun _ _ _ _ _ _ us hl => match us, hl with | [_, _, _, _, _], _ => rfl
  have Flaw := fun_mk (st := slaw) llaw claw klaw
  have Fini := fun_mk (st := sTaste___init__) lini cini kini
  have bini := Fini.binds (ps := ["self", "classes", "outcomes"]) fun _ _ _ _ _ _ us hl => match us, hl with | [_, _, _], _ => rfl
  have Frnk := fun_mk (st := sTaste_rank) lrnk crnk krnk
  have brnk := Frnk.binds (ps := ["self", "outcome"]) fun _ _ _ _ _ _ us hl => match us, hl with | [_, _], _ => rfl
  have Fabv := fun_mk (st := sTaste_above) labv cabv kabv
  have babv := Fabv.binds (ps := ["self", "d", "c"]) fun _ _ _ _ _ _ us hl => match us, hl with | [_, _, _], _ => rfl
  have ZT : Tx K C := ⟨⟨pgC, hdC, poC, saC⟩, nCl, nRk⟩
  have CP : Cn K mg "PLAIN" (plainW.map V.str) := ⟨fP, PySem.W.mg_of X G aP, fun H => .inr ⟨_, itP, nP, lP, rfl, rfl, vP.1, vP.2⟩⟩
  have CS : Cn K mg "FAR_STEPS" (stepW.map V.str) := ⟨fS, PySem.W.mg_of X G aS, fun H => .inr ⟨_, itS, nS, lS, rfl, rfl, vS.1, vS.2⟩⟩
  refine ⟨PySem.W.fnOf "law" "law" (defArgs slaw) (defBody slaw) (defScope slaw) .none kVlaw dclaw pmlaw anlaw cdlaw ctlaw, fun s v => .of_eq rfl, fun base _ _ => ?_⟩
  let Ddraw : Dn l.prog w K mg base 1 "_law_draw" ["jar", "many"] (spDraw K) := ⟨fdraw, _, ok_draw Fdraw T, PySem.W.mg_of X G adraw, kdraw, bdraw⟩
  let Djar : Dn l.prog w K mg base 1 "_law_jar" ["script"] (spJar K) := ⟨fjar, _, ok_jar Fjar T, PySem.W.mg_of X G ajar, kjar, bjar⟩
  let Dpick : Dn l.prog w K mg base 2 "_law_pick" ["jar", "menu"] (spPick K) := ⟨fpick, _, ok_pick Fpick T Ddraw, PySem.W.mg_of X G apick, kpick, bpick⟩
  let Dmix : Dn l.prog w K mg base 2 "_law_mixed" ["jar", "things"] (spMixed K) := ⟨fmix, _, ok_mixed Fmix T Ddraw, PySem.W.mg_of X G amix, kmix, bmix⟩
  let Ddrs : Dn l.prog w K mg base 2 "_law_dress" ["jar", "things"] (spDress K) := ⟨fdrs, _, ok_dress Fdrs T Ddraw, PySem.W.mg_of X G adrs, kdrs, bdrs⟩
  let Dkpt : Dn l.prog w K mg base 1 "_law_kept_words" [] spKept := ⟨fkpt, _, ok_kept Fkpt, PySem.W.mg_of X G akpt, kkpt, bkpt⟩
  let Dwrd : Dn l.prog w K mg base 3 "_law_word" ["jar", "taken"] (spWord K) := ⟨fwrd, _, ok_word Fwrd T Ddraw Dpick Dkpt, PySem.W.mg_of X G awrd, kwrd, bwrd⟩
  let Dwds : Dn l.prog w K mg base 4 "_law_words" ["jar", "many"] (spWords K) := ⟨fwds, _, ok_words Fwds T Dwrd, PySem.W.mg_of X G awds, kwds, bwds⟩
  let Dsam : Dn l.prog w K mg base 3 "_law_same" ["got", "due"] (spSame K 3) := ⟨fsam, _, all_same Fsam T (PySem.W.mg_of X G asam) bsam 3, PySem.W.mg_of X G asam, ksam, bsam⟩
  let Dtms : Dn l.prog w K mg base 1 "_law_teams" ["folk"] spTeams := ⟨ftms, _, ok_teams Ftms T, PySem.W.mg_of X G atms, ktms, btms⟩
  let Dtrs : Dn l.prog w K mg base 3 "_law_tiers" ["jar", "goals"] (spTiers K) := ⟨ftrs, _, ok_tiers Ftrs T Ddraw Dmix, PySem.W.mg_of X G atrs, ktrs, btrs⟩
  let Drks : Dn l.prog w K mg base 1 "_law_ranks" ["tiers"] spRanks := ⟨frks, _, ok_ranks Frks T, PySem.W.mg_of X G arks, krks, brks⟩
  let Dspr : Dn l.prog w K mg base 3 "_law_spread" ["jar", "words"] (spSpread K) := ⟨fspr, _, ok_spread Fspr T Ddraw Dpick, PySem.W.mg_of X G aspr, kspr, bspr⟩
  let Dway : Dn l.prog w K mg base 1 "_law_way_words" ["way"] (spWay K) := ⟨fway, _, ok_way Fway T, PySem.W.mg_of X G away, kway, bway⟩
  let Dofw : Dn l.prog w K mg base 1 "words_of" ["text"] spOf := ⟨fofw, _, ok_of Fofw, PySem.W.mg_of X G aofw, kofw, bofw⟩
  let Dman : Dn l.prog w K mg base 1 "manner_of_words" ["words", "members"] (spManner K) := ⟨fman, _, ok_manner Fman T CP CS, PySem.W.mg_of X G aman, kman, bman⟩
  let Drdm : Dn l.prog w K mg base 2 "read_manner" ["text", "members"] (spRead K) := ⟨frdm, _, ok_read Frdm T Dofw Dman, PySem.W.mg_of X G ardm, krdm, brdm⟩
  let Dtks : Dn l.prog w K mg base 1 "_law_takes" ["way", "team", "ranks", "base", "goal"] (spTakes K) := ⟨ftks, _, ok_takes Ftks T, PySem.W.mg_of X G atks, ktks, btks⟩
  let Dwrg : Dn l.prog w K mg base 3 "_law_wrong_words" ["jar", "folk", "team"] (spWrong K) := ⟨fwrg, _, ok_wrong Fwrg T Dpick, PySem.W.mg_of X G awrg, kwrg, bwrg⟩
  let Mr : Mt l.prog w K mg base 1 C "rank" ["self", "outcome"] (spRank C) := ⟨frnk, _, ok_rank Frnk T ZT, ⟨arnk, irnk, krnk⟩, brnk⟩
  let Ma : Mt l.prog w K mg base 2 C "above" ["self", "d", "c"] (spAbove C) := ⟨fabv, _, ok_above Fabv ZT Mr, ⟨aabv, iabv, kabv⟩, babv⟩
  let Dprf : Dn l.prog w K mg base 3 "prefers" ["manner", "tastes", "members", "d", "c"] (spPrefers K C) := ⟨fprf, _, ok_prefers Fprf T ZT Mr Ma, PySem.W.mg_of X G aprf, kprf, bprf⟩
  let Z : TyP l.prog w K mg base C := ⟨fini, _, ok_taste Fini T ZT, ⟨mkC, aini, iini, kcC⟩, PySem.W.mg_of X G aC, bini⟩
  exact ok_law Flaw T Z ZT Djar Ddraw Dpick Dmix Ddrs Dwds Dsam Dtms Dtrs Drks Dspr Dway Drdm (kb_read Frdm) Dtks Dprf (kb_prefers Fprf) Dwrg
theorem walk {l : PySem.W.OpenLaw} {q : Program} {loose : List Str} {XP : (Str → Option Value) → Heap → Prop} {YP : World → Heap → Prop} {d : DefRec} {K : Params → PySem.W.Frag} (hn : l.most = some 63) (hdf : d.params.defaults = [])
    (hY : ∀ (w : World) (h : Heap), YP w h → (K w.params).In h)
    (F : ∀ (w : World) (mg : Str → Option Value) (fa : Addr) (h : Heap), (K w.params).In h → h.Ns mainGlobals mg → mg d.name = some (.ref fa) →
      ∃ fd : FuncData, (∀ (s : Shared) (u : Value), BindsTo s fd ⟨[u], []⟩ [("script", u)]) ∧ ∀ base : Heap, (K w.params).In base → base.Ns mainGlobals mg → FnOk l.prog w (K w.params) mg base CX0 6 fa fd ["script"] (spLaw (K w.params))) :
    PySem.W.WalkO q loose XP YP l.row.toRowW d [] (fun f vs => PySem.call f vs) :=
  L2.walk_of (n := 63) (k := 6) (x := "script") (CX := fun _ => CX0) (sp := fun w => spLaw (K w.params)) hn (by decide) hdf ⟨rfl, by decide, by decide⟩ hY F (fun _ _ a ns hl _ hS => ⟨a, ns, rfl, hS, hl, fun _ => rfl⟩) fun _ _ _ _ _ z => z
end Bq
open PySem PySem.W PyProof.Rows
set_option maxRecDepth 100000 in
set_option maxHeartbeats 0 in
theorem PySem.Challenge.cw_broughtabout_k03_manners_beside_counting_holds : PySem.Challenge.rw_broughtabout_k03_manners_beside_counting.Holds := by
  w_on; o_law; k_head; (case hw => w_witness2)
  k_fill
  refine Bq.walk (l := PySem.Challenge.rw_broughtabout_k03_manners_beside_counting) rfl rfl (fun w h Y => PySem.W.kIn_of Y) ?F
  case F =>
    intro w mg fa h KX G hmg
    refine' Bq.all_mk KX G hmg ?ajar ?ljar ?cjar ?kjar ?adraw ?ldraw ?cdraw ?kdraw ?apick ?lpick ?cpick ?kpick ?amix ?lmix ?cmix ?kmix ?adrs ?ldrs ?cdrs ?kdrs ?asam ?lsam ?csam ?ksam ?akpt ?lkpt ?ckpt ?kkpt ?awrd ?lwrd ?cwrd ?kwrd ?awds ?lwds ?cwds ?kwds ?atms ?ltms ?ctms ?ktms ?atrs ?ltrs ?ctrs ?ktrs ?arks ?lrks ?crks ?krks ?aspr ?lspr ?cspr ?kspr ?away ?lway ?cway ?kway ?atks ?ltks ?ctks ?ktks ?awrg ?lwrg ?cwrg ?kwrg ?aofw ?lofw ?cofw ?kofw ?aman ?lman ?cman ?kman ?ardm ?lrdm ?crdm ?krdm ?aprf ?lprf ?cprf ?kprf ?alaw ?llaw ?claw ?klaw ?aini ?iini ?lini ?cini ?kini ?arnk ?irnk ?lrnk ?crnk ?krnk ?aabv ?iabv ?labv ?cabv ?kabv ?aC ?pgC ?hdC ?poC ?saC ?mkC ?kcC ?nCl ?nRk ?aP ?lP ?vP ?aS ?lS ?vS ?z_len ?z_int ?z_str ?z_list ?z_tuple ?z_dict ?z_range ?z_sorted ?z_all ?z_any ?z_enumerate ?z_isinstance ?z_bool
    (case aC => k_is)
    (case ajar => k_is)
    (case ljar => k_is)
    (case cjar => k_is)
    (case kjar => k_is)
    (case adraw => k_is)
    (case ldraw => k_is)
    (case cdraw => k_is)
    (case kdraw => k_is)
    (case apick => k_is)
    (case lpick => k_is)
    (case cpick => k_is)
    (case kpick => k_is)
    (case amix => k_is)
    (case lmix => k_is)
    (case cmix => k_is)
    (case kmix => k_is)
    (case adrs => k_is)
    (case ldrs => k_is)
    (case cdrs => k_is)
    (case kdrs => k_is)
    (case asam => k_is)
    (case lsam => k_is)
    (case csam => k_is)
    (case ksam => k_is)
    (case akpt => k_is)
    (case lkpt => k_is)
    (case ckpt => k_is)
    (case kkpt => k_is)
    (case awrd => k_is)
    (case lwrd => k_is)
    (case cwrd => k_is)
    (case kwrd => k_is)
    (case awds => k_is)
    (case lwds => k_is)
    (case cwds => k_is)
    (case kwds => k_is)
    (case atms => k_is)
    (case ltms => k_is)
    (case ctms => k_is)
    (case ktms => k_is)
    (case atrs => k_is)
    (case ltrs => k_is)
    (case ctrs => k_is)
    (case ktrs => k_is)
    (case arks => k_is)
    (case lrks => k_is)
    (case crks => k_is)
    (case krks => k_is)
    (case aspr => k_is)
    (case lspr => k_is)
    (case cspr => k_is)
    (case kspr => k_is)
    (case away => k_is)
    (case lway => k_is)
    (case cway => k_is)
    (case kway => k_is)
    (case atks => k_is)
    (case ltks => k_is)
    (case ctks => k_is)
    (case ktks => k_is)
    (case awrg => k_is)
    (case lwrg => k_is)
    (case cwrg => k_is)
    (case kwrg => k_is)
    (case aofw => k_is)
    (case lofw => k_is)
    (case cofw => k_is)
    (case kofw => k_is)
    (case aman => k_is)
    (case lman => k_is)
    (case cman => k_is)
    (case kman => k_is)
    (case ardm => k_is)
    (case lrdm => k_is)
    (case crdm => k_is)
    (case krdm => k_is)
    (case aprf => k_is)
    (case lprf => k_is)
    (case cprf => k_is)
    (case kprf => k_is)
    (case alaw => k_is)
    (case llaw => k_is)
    (case claw => k_is)
    (case klaw => k_is)
    (case aini => k_is)
    (case iini => k_is)
    (case lini => k_is)
    (case cini => k_is)
    (case kini => k_is)
    (case arnk => k_is)
    (case irnk => k_is)
    (case lrnk => k_is)
    (case crnk => k_is)
    (case krnk => k_is)
    (case aabv => k_is)
    (case iabv => k_is)
    (case labv => k_is)
    (case cabv => k_is)
    (case kabv => k_is)
    (case pgC => k_is)
    (case hdC => k_is)
    (case poC => k_is)
    (case saC => k_is)
    (case mkC => k_is)
    (case kcC => k_is)
    (case nCl => k_is)
    (case nRk => k_is)
    (case aP => k_is)
    (case lP => k_is)
    (case vP => exact ⟨by decide, .cons ⟨_, rfl⟩ (.cons ⟨_, rfl⟩ (.cons ⟨_, rfl⟩ (.cons ⟨_, rfl⟩ .nil)))⟩)
    (case aS => k_is)
    (case lS => k_is)
    (case vS => exact ⟨by decide, .cons ⟨_, rfl⟩ (.cons ⟨_, rfl⟩ (.cons ⟨_, rfl⟩ (.cons ⟨_, rfl⟩ (.cons ⟨_, rfl⟩ (.cons ⟨_, rfl⟩ (.cons ⟨_, rfl⟩ (.cons ⟨_, rfl⟩ (.cons ⟨_, rfl⟩ .nil))))))))⟩)
    (case z_len => k_is)
    (case z_int => k_is)
    (case z_str => k_is)
    (case z_list => k_is)
    (case z_tuple => k_is)
    (case z_dict => k_is)
    (case z_range => k_is)
    (case z_sorted => k_is)
    (case z_all => k_is)
    (case z_any => k_is)
    (case z_enumerate => k_is)
    (case z_isinstance => k_is)
    (case z_bool => k_is)
#print axioms PySem.Challenge.cw_broughtabout_k03_manners_beside_counting_holds
