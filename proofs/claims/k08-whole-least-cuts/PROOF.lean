import PyProof.Rows.All
import Wide.All
import OpenK.AllK
import Wide.FinOn
import HandS.ForMost
import HandS.Walk
import HandS.DictComp
import HandS.More
import HandS.Conv
import HandS.RaiseMore
import HandS.IsInst
import HandS.TupAny
import HandS.Deep
import HandS.DeepEq
import HandS.OwnEq
import HandS.Evl
import HandS.WordsExc
import HandS.Strs
import KE.KExcSuper
import HandS.WordsDict
import PySem.Challenge.RW_firstmade_k08_whole_least_cuts
set_option Elab.async false
set_option linter.all false
set_option maxRecDepth 100000
namespace Fm
open PySem L2
/-! ### the text by places -/
def top (i : Nat) : Stmt := PySem.Challenge.pw_firstmade_k08_whole_least_cuts.main.body.getD i (.Pass ⟨0, 0, 0, 0⟩)
abbrev sIsName : Stmt := top 9
abbrev sIsNeeds : Stmt := top 13
abbrev sRising : Stmt := top 14
abbrev sInit : Stmt := inClass (top 15) 0
abbrev sLook : Stmt := inClass (top 15) 3
abbrev sEq : Stmt := inClass (top 15) 8
abbrev sPairs : Stmt := inClass (top 15) 11
abbrev sWithout : Stmt := inClass (top 15) 12
abbrev sReaches : Stmt := inClass (top 15) 13
abbrev sOrder : Stmt := inClass (top 15) 16
abbrev sLacks : Stmt := inClass (top 15) 17
abbrev sCuts : Stmt := inClass (top 15) 18
abbrev sIsCut : Stmt := inClass (top 15) 19
abbrev sPool : Stmt := top 17
abbrev sTake : Stmt := top 18
abbrev sOne : Stmt := top 19
abbrev sNeeds : Stmt := top 20
abbrev sHasRing : Stmt := top 21
abbrev sCut : Stmt := top 22
abbrev sOnRings : Stmt := top 23
abbrev sSets : Stmt := top 24
abbrev sDue : Stmt := top 25
abbrev sTold : Stmt := top 26
abbrev sLaw : Stmt := top 27

/-! ### heaps -/
/-- all but what stands at p is kept -/
def But (p : Addr) (H H' : Hp) : Prop := ∀ c o, H c = some o → c ≠ p → H' c = some o
theorem But.refl (p : Addr) (H : Hp) : But p H H := fun _ _ h _ => h
theorem But.trans {p : Addr} {H H1 H2 : Hp} (a : But p H H1) (b : But p H1 H2) : But p H H2 := fun c o h n => b c o (a c o h n) n
theorem But.upd {p : Addr} {H : Hp} {o : HO} : But p H (upd H p o) := fun c u h n => by rw [upd_ne n]; exact h
theorem Same.but {p : Addr} {H H' : Hp} (s : Same H H') : But p H H' := fun c o h _ => s c o h
theorem Same.new {H H1 : Hp} {p : Addr} {o : HO} (s : Same H H1) (n : H1 p = none) : Same H (upd H1 p o) := fun c u h => by
  rw [upd_ne (ne_of_none (s c u h) n)]; exact s c u h
end Fm
set_option Elab.async false
set_option linter.all false
set_option maxRecDepth 100000
namespace Fm
open PySem L2
section
variable {P : Program} {w : World} {K : PySem.W.Frag} {mg : Str → Option Value} {base : Heap}
/-! ### drawing: the pool -/
structure PoolAt (H : Hp) (p : Addr) : Prop where
  ex : ∃ a b : Int, H p = some (.lst [.int a, .int b]) ∧ 0 ≤ a ∧ 0 ≤ b ∧ b < 2147483647
/-- _law_take: a number below many is handed back, the pool alone is changed -/
def spTake : Sp := fun vs H Q _ => ∃ (p : Addr) (m : Int), vs = [.ref p, .int m] ∧ PoolAt H p ∧ 0 < m ∧ m < 1000 ∧
  ∀ (v : Int) (H' : Hp), 0 ≤ v → v < m → PoolAt H' p → But p H H' → Q (.int v) H'
theorem scTake : FnScope ["pool", "many", "found"] ["pool", "many"] (defScope sTake) := ⟨rfl, rfl, rfl, by decide +kernel, rfl, by decide +kernel, by decide +kernel⟩
theorem ok_take {f : Addr} {fd : FuncData} (F : Fun K "_law_take" "_law_take" sTake f fd) (mI : mg "int" = none) : FnOk P w K mg base CX0 1 f fd ["pool", "many"] spTake := by
  refine F.ok scTake (fun vs H Q E h => ?_) (fun cdv A outer s H vs Q E hr h => ?_)
  · obtain ⟨p, m, rfl, _⟩ := h
    rfl
  · obtain ⟨p, m, rfl, ⟨a, b, hp, ha, hb, hb2⟩, hm, hm2, k⟩ := h
    have nd := scTake.nd
    refine ⟨_, pss_cons (ps_if (pt_cmpR op_gt (pe_ix ix_list (pv 0) pe_int (fun _ _ => rfl)) pe_int (nomark _))
        (pss_cons (ps_set (i := 2) nd rfl (Or.inl rfl) (pe_op op_modN (pe_callTy call_int1 (by rfl) mI (by decide +kernel) (pa_cons (pe_ix ix_list (pv 0) pe_int (fun _ _ => rfl)) pa_nil)) (pv 1)))
        (pss_cons (ps_asg (pe_op op_fdivN (pe_ix ix_list (pv 0) pe_int (fun _ _ => rfl)) (pv 1)) (pg_sub (pv 0) pe_int set_list))
        (pss_one (ps_ret (pv 2))))) pss_nil)
      (pss_cons (ps_asg (pe_op op_modN (pe_callTy call_int1 (by rfl) mI (by decide +kernel) (pa_cons (pe_op op_add (pe_op op_mul (pe_ix ix_list (pv 0) pe_int (fun _ _ => rfl)) pe_int) pe_int) pa_nil)) pe_int) (pg_sub (pv 0) pe_int set_list))
      (pss_one (ps_ret (pe_op op_modN (pe_op op_fdivN (pe_op op_modN (pe_callTy call_int1 (by rfl) mI (by decide +kernel) (pa_cons (pe_op op_mul (pe_ix ix_list (pv 0) pe_int (fun _ _ => rfl)) (pe_ix ix_list (pv 0) pe_int (fun _ _ => rfl))) pa_nil)) pe_int) pe_int) (pv 1))))), ?_⟩
    have r0 : ∀ {H : Hp} {a b : Int}, H p = some (.lst [.int a, .int b]) → SqL K H p [.int a, .int b] := fun h => .inl (.inl h)
    refine ⟨_, rfl, p, _, _, _, rfl, rfl, r0 hp, rfl, _, _, rfl, rfl, _, rfl, ?_⟩
    refine ite2 (fun h => ?_) (fun h => ?_)
    · have h0 : 0 < a := of_decide_eq_true h
      refine ⟨_, rfl, p, _, _, _, rfl, rfl, r0 hp, rfl, .inl ⟨_, rfl, _, rfl, _, _, rfl, rfl, (by show m ≠ 0; omega), ?_⟩⟩
      refine ⟨_, rfl, p, _, _, _, rfl, rfl, r0 hp, rfl, _, rfl, _, _, rfl, rfl, ⟨by show m ≠ 0; omega, by omega⟩, _, rfl, p, _, _, _, rfl, rfl, hp, rfl, ?_⟩
      refine ⟨_, rfl, k _ _ ?_ ?_ ⟨a.fdiv m, b, upd_same, ?_, hb, hb2⟩ But.upd⟩
      · rw [Int.fmod_eq_emod_of_nonneg _ (by omega)]; exact Int.emod_nonneg _ (by omega)
      · rw [Int.fmod_eq_emod_of_nonneg _ (by omega)]; exact Int.emod_lt_of_pos _ (by omega)
      · rw [Int.fdiv_eq_ediv_of_nonneg _ (by omega)]; exact Int.ediv_nonneg ha (by omega)
    · have e1 : ∀ c d : Int, 0 < d → c.fmod d = c % d := fun c d hd => Int.fmod_eq_emod_of_nonneg _ (by omega)
      refine ⟨_, rfl, p, _, _, _, rfl, rfl, r0 hp, rfl, b, 48271, rfl, rfl, .inl ⟨by omega, by omega⟩, _, _, rfl, rfl, .inl ⟨_, rfl, _, _, rfl, rfl, (by show (2147483647 : Int) ≠ 0; decide), ?_⟩⟩
      refine ⟨_, rfl, p, _, _, _, rfl, rfl, hp, rfl, ?_⟩
      have q : 0 ≤ (b * 48271 + 11).fmod 2147483647 ∧ (b * 48271 + 11).fmod 2147483647 < 2147483647 := by
        rw [e1 _ _ (by decide)]; exact ⟨Int.emod_nonneg _ (by decide), Int.emod_lt_of_pos _ (by decide)⟩
      have q2 : -(2 ^ 64) < (b * 48271 + 11).fmod 2147483647 ∧ (b * 48271 + 11).fmod 2147483647 < 2 ^ 64 := by
        generalize (b * 48271 + 11).fmod 2147483647 = b' at q ⊢
        omega
      have hp' : (upd H p (.lst [.int a, .int ((b * 48271 + 11).fmod 2147483647)])) p = some (.lst [.int a, .int ((b * 48271 + 11).fmod 2147483647)]) := upd_same
      refine ⟨_, rfl, p, _, _, _, rfl, rfl, r0 hp', rfl, _, rfl, p, _, _, _, rfl, rfl, r0 hp', rfl, _, _, rfl, rfl, .inl q2, .inl ⟨_, rfl, _, _, rfl, rfl, (by show (2147483629 : Int) ≠ 0; decide), _, _, rfl, rfl, ⟨by decide, by decide⟩, _, rfl, _, _, rfl, rfl, (by show m ≠ 0; omega), ?_⟩⟩
      refine k _ _ ?_ ?_ ⟨a, _, hp', ha, q.1, q.2⟩ But.upd
      · rw [e1 _ _ hm]; exact Int.emod_nonneg _ (by omega)
      · rw [e1 _ _ hm]; exact Int.emod_lt_of_pos _ (by omega)
/-! ### a def of the module, a method: where it stands -/
structure Gf (K : PySem.W.Frag) (mg : Str → Option Value) (x : Str) (st : Stmt) (ps : List Str) (f : Addr) (fd : FuncData) : Prop where
  F : Fun K x x st f fd
  g : mg x = some (.ref f)
  b : Binds K fd ps []
structure Gm (K : PySem.W.Frag) (C : Addr) (m qual : Str) (st : Stmt) (ps : List Str) (f : Addr) (fd : FuncData) : Prop where
  F : Fun K m qual st f fd
  mt : Meth K C m f
  b : Binds K fd ps []
/-- _law_one: an item of the list -/
def spOne (K : PySem.W.Frag) : Sp := fun vs H Q _ => ∃ (p l : Addr) (xs : List V), vs = [.ref p, .ref l] ∧ PoolAt H p ∧ SqL K H l xs ∧ 0 < xs.length ∧ xs.length < 1000 ∧ p ≠ l ∧
  ∀ (v : V) (H' : Hp), v ∈ xs → PoolAt H' p → But p H H' → Q v H'
theorem But.seqL {p a : Addr} {H H' : Hp} {xs : List V} (e : But p H H') (n : a ≠ p) (h : SqL K H a xs) : SqL K H' a xs := by
  rcases h with (h | ⟨o, h⟩) | h
  · exact .inl (.inl (e _ _ h n))
  · exact .inl (.inr ⟨o, e _ _ h n⟩)
  · exact .inr h
theorem But.seqT {p a : Addr} {H H' : Hp} {xs : List V} (e : But p H H') (n : a ≠ p) (h : SqT K H a xs) : SqT K H' a xs := by
  rcases h with (h | ⟨o, h⟩) | h
  · exact .inl (.inl (e _ _ h n))
  · exact .inl (.inr ⟨o, e _ _ h n⟩)
  · exact .inr h
theorem scOne : FnScope ["pool", "some"] ["pool", "some"] (defScope sOne) := ⟨rfl, rfl, rfl, by decide +kernel, rfl, by decide +kernel, by decide +kernel⟩
theorem ok_one {f fT : Addr} {fd fdT : FuncData} (F : Fun K "_law_one" "_law_one" sOne f fd) (mI : mg "int" = none) (mL : mg "len" = none) (T : Gf K mg "_law_take" sTake ["pool", "many"] fT fdT) :
    FnOk P w K mg base CX0 2 f fd ["pool", "some"] (spOne K) := by
  have GT : FnOk P w K mg base CX0 1 fT fdT ["pool", "many"] spTake := ok_take T.F mI
  refine F.ok scOne (fun vs H Q E h => ?_) (fun cdv A outer s H vs Q E hr h => ?_)
  · obtain ⟨p, l, xs, rfl, _⟩ := h
    rfl
  · obtain ⟨p, l, xs, rfl, hp, hl, h0, h1, hne, k⟩ := h
    refine ⟨_, pss_one (ps_ret (pe_ix ix_list (pv 1) (pe_call GT hr rfl T.g T.F.kp T.b .nil pass0 (pa_cons (pv 0) (pa_cons (pe_callB call_len_seq (by rfl) mL PySem.boot_len (pa_cons (pv 1) pa_nil)) pa_nil))) (fun _ _ => rfl))), ?_⟩
    refine ⟨_, rfl, _, rfl, _, rfl, l, xs, rfl, .inl hl, p, (xs.length : Int), rfl, hp, by omega, by omega, fun v H' hv hv2 hp' hb => ?_⟩
    obtain ⟨j, rfl⟩ := Int.eq_ofNat_of_zero_le hv
    have hj : j < xs.length := by omega
    exact ⟨l, xs, _, _, rfl, rfl, But.seqL hb hne.symm hl, atI_nat (List.getElem?_eq_getElem hj), k _ _ (List.getElem_mem hj) hp' hb⟩
/-- _law_pool: a new pool -/
def spPool (K : PySem.W.Frag) : Sp := fun vs H Q _ => ∃ (a : Addr) (ns : List Int) (j : Nat), vs = [.ref a, .int j] ∧ SqL K H a (ns.map V.int) ∧ ns.length ≤ 63 ∧ j ≤ 5 ∧
  ∀ (p : Addr) (H' : Hp), H p = none → Same H H' → PoolAt H' p → Q (.ref p) H'
theorem scPool : FnScope ["script", "k", "cell", "size", "seed"] ["script", "k"] (defScope sPool) := ⟨rfl, rfl, rfl, by decide +kernel, rfl, by decide +kernel, by decide +kernel⟩
theorem ok_pool {f : Addr} {fd : FuncData} (F : Fun K "_law_pool" "_law_pool" sPool f fd) (mI : mg "int" = none) (mL : mg "len" = none) : FnOk P w K mg base CX0 1 f fd ["script", "k"] (spPool K) := by
  refine F.ok scPool (fun vs H Q E h => ?_) (fun cdv A outer s H vs Q E hr h => ?_)
  · obtain ⟨a, ns, j, rfl, _⟩ := h
    rfl
  · obtain ⟨a, ns, j, rfl, hS, hlen, hj, k⟩ := h
    have nd := scPool.nd
    refine ⟨_, pss_cons (ps_set (i := 2) nd rfl (Or.inl rfl) pe_int)
      (Evl.pss_cut (ps_if (pt_cmpR op_lt (pv 1) (pe_callB call_len_seq (by rfl) mL PySem.boot_len (pa_cons (pv 0) pa_nil)) (nomark _)) (pss_one (ps_set (i := 2) nd rfl (Or.inl rfl) (pe_ix ix_list (pv 0) (pv 1) (fun _ _ => rfl)))) pss_nil)
      (Evl.pss_cut (ps_set (i := 3) nd rfl (Or.inl rfl) (pe_ifExp (pt_cmpR op_ge (pv 2) pe_int (nomark _)) (pv 2) (pe_op op_sub (pe_un un_neg pe_int) (pv 2))))
      (pss_cons (ps_set (i := 4) nd rfl (Or.inl rfl) (pe_callTy call_int1 (by rfl) mI (by decide +kernel) (pa_cons (pe_op op_add (pe_op op_add (pe_op op_modN (pe_callTy call_int1 (by rfl) mI (by decide +kernel) (pa_cons (pv 3) pa_nil)) pe_int) (pe_op op_mul pe_int (pv 1))) pe_int) pa_nil)))
      (pss_one (ps_ret (pe_lst (pa_cons (pe_op op_mul (pv 3) (pe_callTy call_int1 (by rfl) mI (by decide +kernel) (pa_cons (pe_cmpR op_ge (pv 3) (pe_op op_pow pe_int pe_int) (nomark _)) pa_nil))) (pa_cons (pe_op op_modN (pe_op op_mul (pv 4) pe_int) pe_int) pa_nil)))))))), ?_⟩
    refine ⟨fun σ' H' => ∃ c : Int, σ' = [some (.ref a), some (.int j), some (.int c), none, none] ∧ H' = H, ?_, ?_⟩
    · refine ⟨_, rfl, _, rfl, a, _, rfl, .inl hS, _, _, rfl, rfl, _, rfl, ?_⟩
      refine ite2 (fun h => ?_) (fun h => ?_)
      · have hj2 : j < ns.length := by
          have := of_decide_eq_true h
          rw [List.length_map] at this
          omega
        exact ⟨_, rfl, _, rfl, a, _, _, _, rfl, rfl, hS, atI_nat (by rw [List.getElem?_map, List.getElem?_eq_getElem hj2]; rfl), ns[j], rfl, rfl⟩
      · exact ⟨0, rfl, rfl⟩
    rintro σ' H' ⟨c, rfl, rfl⟩
    refine ⟨fun σ' H2 => ∃ z : Int, 0 ≤ z ∧ σ' = [some (.ref a), some (.int j), some (.int c), some (.int z), none] ∧ H2 = H', ?_, ?_⟩
    · refine ⟨_, rfl, _, _, rfl, rfl, _, rfl, ?_⟩
      refine ite2 (fun h => ?_) (fun h => ?_)
      · have := of_decide_eq_true h
        exact ⟨_, rfl, c, this, rfl, rfl⟩
      · have h : ¬ 0 ≤ c := fun q => h (decide_eq_true q)
        exact ⟨1, rfl, _, rfl, _, _, rfl, rfl, -1 - c, by omega, rfl, rfl⟩
    rintro σ' H2 ⟨z, hz, rfl, rfl⟩
    have nn : ∀ c d : Int, 0 < d → 0 ≤ c.fmod d ∧ c.fmod d < d := fun c d hd => by
      rw [Int.fmod_eq_emod_of_nonneg _ (by omega)]
      exact ⟨Int.emod_nonneg _ (by omega), Int.emod_lt_of_pos _ hd⟩
    refine ⟨_, rfl, .inl ⟨_, rfl, _, _, rfl, rfl, (by show (2147483629 : Int) ≠ 0; decide), _, rfl, _, _, rfl, rfl, .inl ⟨by decide, by decide⟩, _, _, rfl, rfl, _, _, rfl, rfl, .inl ⟨_, rfl, ?_⟩⟩⟩
    have q1 := nn z 2147483629 (by decide)
    have e4 : ∀ (i j : Int), (fun i j : Int => V.int (i + j)) i j = V.int (i + j) := fun _ _ => rfl
    refine ⟨_, rfl, _, rfl, _, _, rfl, rfl, ⟨by decide, by decide, by decide⟩, _, _, rfl, rfl, .inr ⟨_, rfl, _, _, rfl, rfl, ?_, ?_⟩⟩
    · refine .inr ?_
      by_cases c1 : decide ((10 : Int) ^ Int.toNat 18 ≤ z) = true
      · rw [if_pos c1]; exact ⟨by decide, by decide⟩
      · rw [if_neg c1]; exact ⟨by decide, by decide⟩
    refine ⟨_, rfl, _, _, rfl, rfl, .inr ⟨by decide, by decide⟩, _, _, rfl, rfl, (by show (2147483647 : Int) ≠ 0; decide), (by show 2 ≤ sizeLine; decide), fun p hp => ?_⟩
    refine k _ _ hp (Same.new (Same.refl _) hp) ⟨_, _, upd_same, ?_, (nn _ _ (by decide)).1, (nn _ _ (by decide)).2⟩
    by_cases c1 : decide ((10 : Int) ^ Int.toNat 18 ≤ z) = true
    · rw [if_pos c1]; omega
    · rw [if_neg c1]; omega
end
end Fm
set_option Elab.async false
set_option linter.all false
set_option maxRecDepth 100000
namespace Fm
open PySem L2
/-! ### data and heaps -/
mutual
/-- no list stands in it -/
def tless : PyData → Bool
  | .list _ => false
  | .dict _ => false
  | .tuple xs => tlessAll xs
  | .none => true
  | .bool _ => true
  | .int _ => true
  | .str _ => true
def tlessAll : List PyData → Bool
  | [] => true
  | d :: ds => tless d && tlessAll ds
end
section
variable {K : PySem.W.Frag} {H H' : Hp}
mutual
theorem dp_keep (hl : ∀ a xs, SqL K H a xs → SqL K H' a xs) (ht : ∀ a xs, SqT K H a xs → SqT K H' a xs) : ∀ (d : PyData) (v : V), Dp K H v d → Dp K H' v d
  | .none, _, h => by cases h; exact .non
  | .bool b, _, h => by cases h; exact .bl b
  | .int i, _, h => by cases h; exact .int i
  | .str x, _, h => by cases h; exact .str x
  | .list ds, _, h => by
    cases h with
    | lst hs ha => exact .lst (hl _ _ hs) (dpAll_keep hl ht ds _ ha)
  | .tuple ds, _, h => by
    cases h with
    | tup hs ha => exact .tup (ht _ _ hs) (dpAll_keep hl ht ds _ ha)
  | .dict _, _, h => by cases h
theorem dpAll_keep (hl : ∀ a xs, SqL K H a xs → SqL K H' a xs) (ht : ∀ a xs, SqT K H a xs → SqT K H' a xs) : ∀ (ds : List PyData) (vs : List V), DpAll K H vs ds → DpAll K H' vs ds
  | [], _, h => by cases h; exact .nil
  | d :: ds, _, h => by
    cases h with
    | cons h1 h2 => exact .cons (dp_keep hl ht d _ h1) (dpAll_keep hl ht ds _ h2)
end
mutual
theorem dp_keepT (ht : ∀ a xs, SqT K H a xs → SqT K H' a xs) : ∀ (d : PyData) (v : V), tless d = true → Dp K H v d → Dp K H' v d
  | .none, _, _, h => by cases h; exact .non
  | .bool b, _, _, h => by cases h; exact .bl b
  | .int i, _, _, h => by cases h; exact .int i
  | .str x, _, _, h => by cases h; exact .str x
  | .list ds, _, t, h => by simp [tless] at t
  | .tuple ds, _, t, h => by
    cases h with
    | tup hs ha => exact .tup (ht _ _ hs) (dpAll_keepT ht ds _ (by simpa [tless] using t) ha)
  | .dict _, _, _, h => by cases h
theorem dpAll_keepT (ht : ∀ a xs, SqT K H a xs → SqT K H' a xs) : ∀ (ds : List PyData) (vs : List V), tlessAll ds = true → DpAll K H vs ds → DpAll K H' vs ds
  | [], _, _, h => by cases h; exact .nil
  | d :: ds, _, t, h => by
    have t' : tless d = true ∧ tlessAll ds = true := by simpa [tlessAll] using t
    cases h with
    | cons h1 h2 => exact .cons (dp_keepT ht d _ t'.1 h1) (dpAll_keepT ht ds _ t'.2 h2)
end
theorem tlessAll_iff : ∀ {ds : List PyData}, tlessAll ds = true ↔ ∀ d ∈ ds, tless d = true
  | [] => by simp [tlessAll]
  | d :: ds => by simp [tlessAll, tlessAll_iff (ds := ds)]
theorem rd_same {u : HO} {a : Addr} (s : Same H H') (r : Rd H a u) : Rd H' a u := r.elim (fun e => .inl (s _ _ e)) fun ⟨o, e⟩ => .inr ⟨o, s _ _ e⟩
theorem sqT_same {a : Addr} {xs : List V} (s : Same H H') (h : SqT K H a xs) : SqT K H' a xs := h.elim (fun r => .inl (rd_same s r)) .inr
theorem sqL_same {a : Addr} {xs : List V} (s : Same H H') (h : SqL K H a xs) : SqL K H' a xs := h.elim (fun r => .inl (rd_same s r)) .inr
theorem dp_same {d : PyData} {v : V} (s : Same H H') (h : Dp K H v d) : Dp K H' v d := dp_keep (fun _ _ => sqL_same s) (fun _ _ => sqT_same s) d v h
theorem dpAll_same {ds : List PyData} {vs : List V} (s : Same H H') (h : DpAll K H vs ds) : DpAll K H' vs ds := dpAll_keep (fun _ _ => sqL_same s) (fun _ _ => sqT_same s) ds vs h
theorem dpAll_length : ∀ {ds : List PyData} {vs : List V}, DpAll K H vs ds → vs.length = ds.length
  | _, _, .nil => rfl
  | _, _, .cons _ h => by simp [dpAll_length h]
theorem dpAll_append : ∀ {ds es : List PyData} {vs us : List V}, DpAll K H vs ds → DpAll K H us es → DpAll K H (vs ++ us) (ds ++ es)
  | _, _, _, _, .nil, h => h
  | _, _, _, _, .cons a b, h => .cons a (dpAll_append b h)
theorem dpAll_get : ∀ {ds : List PyData} {vs : List V} {i : Nat} {d : PyData}, DpAll K H vs ds → ds[i]? = some d → ∃ v, vs[i]? = some v ∧ Dp K H v d
  | _, _, _, _, .nil, e => by simp at e
  | _, _, 0, _, .cons a b, e => by simp at e; subst e; exact ⟨_, rfl, a⟩
  | _, _, i + 1, _, .cons a b, e => by
    obtain ⟨v, h1, h2⟩ := dpAll_get (i := i) b (by simpa using e)
    exact ⟨v, by simpa using h1, h2⟩
theorem dpAll_get' : ∀ {ds : List PyData} {vs : List V} {i : Nat} {v : V}, DpAll K H vs ds → vs[i]? = some v → ∃ d, ds[i]? = some d ∧ Dp K H v d
  | _, _, _, _, .nil, e => by simp at e
  | _, _, 0, _, .cons a b, e => by simp at e; subst e; exact ⟨_, rfl, a⟩
  | _, _, i + 1, _, .cons a b, e => by
    obtain ⟨d, h1, h2⟩ := dpAll_get' (i := i) b (by simpa using e)
    exact ⟨d, by simpa using h1, h2⟩
/-- texts -/
theorem dpAll_strs : ∀ {xs : List Str}, DpAll K H (xs.map V.str) (xs.map PyData.str)
  | [] => .nil
  | x :: xs => .cons (.str x) dpAll_strs
theorem dpAll_strs' : ∀ {xs : List Str} {vs : List V}, DpAll K H vs (xs.map PyData.str) → vs = xs.map V.str
  | [], _, h => by cases h; rfl
  | x :: xs, _, h => by
    cases h with
    | cons a b => cases a; rw [dpAll_strs' b]; rfl
theorem dpAll_ints : ∀ {xs : List Int}, DpAll K H (xs.map V.int) (xs.map PyData.int)
  | [] => .nil
  | x :: xs => .cons (.int x) dpAll_ints
theorem dpAll_ints' : ∀ {xs : List Int} {vs : List V}, DpAll K H vs (xs.map PyData.int) → vs = xs.map V.int
  | [], _, h => by cases h; rfl
  | x :: xs, _, h => by
    cases h with
    | cons a b => cases a; rw [dpAll_ints' b]; rfl
/-- where a list is laid anew, tuples stay -/
theorem sqT_upd {a D : Addr} {xs acc : List V} {o : HO} (hD : H D = some (.lst acc)) (h : SqT K H a xs) : SqT K (upd H D o) a xs := by
  rcases h with (h | ⟨b, h⟩) | h
  · exact .inl (.inl (by rw [upd_ne (ne_of h hD (by intro z; cases z))]; exact h))
  · exact .inl (.inr ⟨b, by rw [upd_ne (ne_of h hD (by intro z; cases z))]; exact h⟩)
  · exact .inr h
theorem dp_updL {D : Addr} {acc : List V} {o : HO} {d : PyData} {v : V} (hD : H D = some (.lst acc)) (t : tless d = true) (h : Dp K H v d) : Dp K (upd H D o) v d := dp_keepT (fun _ _ => sqT_upd hD) d v t h
theorem dpAll_updL {D : Addr} {acc : List V} {o : HO} {ds : List PyData} {vs : List V} (hD : H D = some (.lst acc)) (t : tlessAll ds = true) (h : DpAll K H vs ds) : DpAll K (upd H D o) vs ds := dpAll_keepT (fun _ _ => sqT_upd hD) ds vs t h
/-! ### a dict locked while it is walked -/
theorem same_unlock {d : Addr} {u : HO} {od : Obj} (h : H d = some u) (s : Same (upd H d (.frz od u)) H') : Same H (upd H' d u) := fun b o e => by
  by_cases hb : b = d
  · subst hb
    rw [h] at e
    cases e
    exact upd_same
  · rw [upd_ne hb]
    exact s b o (by rw [upd_ne hb]; exact e)
theorem rd_unlock {a d : Addr} {u w : HO} {od : Obj} (hw : ∀ o v, w ≠ .frz o v) (h : H d = some (.frz od u)) (r : Rd H a w) : Rd (upd H d u) a w := by
  by_cases ha : a = d
  · subst ha
    rcases r with e | ⟨o, e⟩
    · rw [h] at e
      cases e
      exact (hw _ _ rfl).elim
    · rw [h] at e
      cases e
      exact .inl upd_same
  · rcases r with e | ⟨o, e⟩
    · exact .inl (by rw [upd_ne ha]; exact e)
    · exact .inr ⟨o, by rw [upd_ne ha]; exact e⟩
theorem sqT_unlock {a d : Addr} {u : HO} {od : Obj} {xs : List V} (h : H d = some (.frz od u)) (r : SqT K H a xs) : SqT K (upd H d u) a xs := r.elim (fun r => .inl (rd_unlock (fun _ _ z => by cases z) h r)) .inr
theorem sqL_unlock {a d : Addr} {u : HO} {od : Obj} {xs : List V} (h : H d = some (.frz od u)) (r : SqL K H a xs) : SqL K (upd H d u) a xs := r.elim (fun r => .inl (rd_unlock (fun _ _ z => by cases z) h r)) .inr
theorem dp_unlock {e : Addr} {u : HO} {od : Obj} {d : PyData} {v : V} (h : H e = some (.frz od u)) (r : Dp K H v d) : Dp K (upd H e u) v d := dp_keep (fun _ _ => sqL_unlock h) (fun _ _ => sqT_unlock h) d v r
theorem dpAll_unlock {e : Addr} {u : HO} {od : Obj} {ds : List PyData} {vs : List V} (h : H e = some (.frz od u)) (r : DpAll K H vs ds) : DpAll K (upd H e u) vs ds := dpAll_keep (fun _ _ => sqL_unlock h) (fun _ _ => sqT_unlock h) ds vs r
theorem rd_lock {a d : Addr} {u w : HO} {od : Obj} (h : H d = some u) (hu : ∀ o v, u ≠ .frz o v) (r : Rd H a w) : Rd (upd H d (.frz od u)) a w := by
  by_cases ha : a = d
  · subst ha
    rcases r with e | ⟨o, e⟩
    · rw [h] at e
      cases e
      exact .inr ⟨od, upd_same⟩
    · rw [h] at e
      cases e
      exact (hu _ _ rfl).elim
  · rcases r with e | ⟨o, e⟩
    · exact .inl (by rw [upd_ne ha]; exact e)
    · exact .inr ⟨o, by rw [upd_ne ha]; exact e⟩
theorem sqT_lock {a d : Addr} {u : HO} {od : Obj} {xs : List V} (h : H d = some u) (hu : ∀ o v, u ≠ .frz o v) (r : SqT K H a xs) : SqT K (upd H d (.frz od u)) a xs := r.elim (fun r => .inl (rd_lock h hu r)) .inr
theorem sqL_lock {a d : Addr} {u : HO} {od : Obj} {xs : List V} (h : H d = some u) (hu : ∀ o v, u ≠ .frz o v) (r : SqL K H a xs) : SqL K (upd H d (.frz od u)) a xs := r.elim (fun r => .inl (rd_lock h hu r)) .inr
theorem dp_lock {e : Addr} {u : HO} {od : Obj} {d : PyData} {v : V} (h : H e = some u) (hu : ∀ o v, u ≠ .frz o v) (r : Dp K H v d) : Dp K (upd H e (.frz od u)) v d := dp_keep (fun _ _ => sqL_lock h hu) (fun _ _ => sqT_lock h hu) d v r
theorem dpAll_lock {e : Addr} {u : HO} {od : Obj} {ds : List PyData} {vs : List V} (h : H e = some u) (hu : ∀ o v, u ≠ .frz o v) (r : DpAll K H vs ds) : DpAll K (upd H e (.frz od u)) vs ds := dpAll_keep (fun _ _ => sqL_lock h hu) (fun _ _ => sqT_lock h hu) ds vs r
theorem dk_nf {kvs : List (Key × V)} : ∀ o v, HO.dK kvs ≠ .frz o v := fun _ _ z => by cases z
theorem lst_nf {xs : List V} : ∀ o v, HO.lst xs ≠ .frz o v := fun _ _ z => by cases z
end
/-! ### comprehensions that make data -/
theorem range_fm {f : Nat → Option PyData} (i : Nat) : (List.range (i + 1)).filterMap f = (List.range i).filterMap f ++ (f i).toList := by
  rw [List.range_succ, List.filterMap_append]
  congr 1
/-- [elt for x in .. if ..]: f tells what is made of the i-th item, or that it is left out; nothing that stood is changed -/
theorem lc_data {K : PySem.W.Frag} {J : It} {n : Nat} {G : Hp → Prop} {Y : Nat → Hp → V → Hp → Prop} (w : Walk J n G Y) {g : TG} {tt : TT} {te : TE} {vs : List Nat} {σ : St} {H1 : Hp} {D : Addr} {Qd : Hp → Prop} (hD : H1 D = none)
    (f : Nat → Option PyData) (hn : n ≤ 100000) (hG : ∀ H, Same H1 H → G H) (hf : ∀ i, i < n → ∀ d, f i = some d → tless d = true)
    (hs : ∀ i x H H' (kt : V → Hp → Prop) (kf : Hp → Prop), i < n → Same H1 H → (∃ acc, H D = some (.lst acc)) → Y i H x H' →
      (∀ y H4 d, f i = some d → Same H H4 → Dp K H4 y d → kt y H4) → (∀ H4, f i = none → Same H H4 → kf H4) →
      g x (wipe σ vs) H' fun σ2 H2 => wipe σ2 vs = wipe σ vs ∧ tt σ2 H2 fun b H3 => if b = true then te σ2 H3 kt else kf H3)
    (hd : ∀ H us, Same H1 H → H D = some (.lst us) → DpAll K H us ((List.range n).filterMap f) → Qd H) :
    ∃ W : Nat → Nat → Hp → Prop, (∃ m, W 0 m (upd H1 D (.lst []))) ∧ ∀ i m H, W i m H →
      (J.stop i H ∧ Qd H) ∨ (J.go i H ∧ ∃ Nx : Hp → Prop, (∀ H', Nx H' → ∃ m', m' < m ∧ W (i + 1) m' H') ∧ ∀ x H', J.yld i H x H' → g x (wipe σ vs) H' fun σ2 H2 => wipe σ2 vs = wipe σ vs ∧ tt σ2 H2 fun b H3 =>
        if b = true then te σ2 H3 fun y H4 => ∃ acc, H4 D = some (.lst acc) ∧ acc.length < sizeLine ∧ Nx (upd H4 D (.lst (acc ++ [y]))) else Nx H3) := by
  have tl : ∀ i, i ≤ n → tlessAll ((List.range i).filterMap f) = true := fun i hi => tlessAll_iff.mpr fun d hd => by
    obtain ⟨j, hj, e⟩ := List.mem_filterMap.mp hd
    exact hf j (Nat.lt_of_lt_of_le (List.mem_range.mp hj) hi) d e
  refine lc_it w (fun i H => Same H1 H ∧ ∃ us, H D = some (.lst us) ∧ us.length ≤ i ∧ DpAll K H us ((List.range i).filterMap f)) ⟨Same.new (Same.refl _) hD, [], upd_same, Nat.le_refl _, .nil⟩ (fun i H _ p => hG H p.1) ?_ ?_
  · rintro i x H H' hi ⟨s, us, hu, hl, hp⟩ y
    refine hs i x H H' _ _ hi s ⟨us, hu⟩ y (fun v H4 d hfi s4 hv => ?_) (fun H4 hfi s4 => ?_)
    · have h4 := s4 _ _ hu
      refine ⟨us, h4, Nat.lt_of_le_of_lt (Nat.le_trans hl (Nat.le_of_lt (Nat.lt_of_lt_of_le hi hn))) (by decide), fun b o e => ?_, us ++ [v], upd_same, by simp; omega, ?_⟩
      · rw [upd_ne (ne_of_none e hD)]
        exact s4 _ _ (s b o e)
      · rw [range_fm, hfi]
        exact dpAll_append (dpAll_updL h4 (tl i (Nat.le_of_lt hi)) (dpAll_same s4 hp)) (.cons (dp_updL h4 (hf i hi d hfi) hv) .nil)
    · refine ⟨Same.trans s s4, us, s4 _ _ hu, by omega, ?_⟩
      rw [range_fm, hfi, Option.toList_none, List.append_nil]
      exact dpAll_same s4 hp
  · rintro H ⟨s, us, hu, _, hp⟩
    exact hd H us s hu hp
/-- over a list of items: the i-th by its data -/
theorem range_map {α : Type} (xs : List α) (f : α → Option PyData) : (List.range xs.length).filterMap (fun i => xs[i]?.bind f) = xs.filterMap f := by
  induction xs with
  | nil => rfl
  | cons x xs ih =>
    rw [List.length_cons, List.range_succ_eq_map, List.filterMap_cons, List.filterMap_map, List.filterMap_cons]
    simp only [List.getElem?_cons_zero, Option.bind_some]
    have e : (fun i => (x :: xs)[i]?.bind f) ∘ Nat.succ = fun i => xs[i]?.bind f := by funext i; simp
    rw [e, ih]
end Fm
set_option Elab.async false
set_option linter.all false
set_option maxRecDepth 100000
namespace Fm
open PySem L2 PyProof.Rows PySem.Spec
/-! ## THE MATHEMATICS: needs, rings, cuts; no program in sight -/
theorem nodup_filter {α : Type} {p : α → Bool} : ∀ {l : List α}, l.Nodup → (l.filter p).Nodup := fun h => List.Pairwise.filter p h
/-! ### one order of texts -/
theorem risingS_pw : ∀ (p : Str) (l : List Str), risingS p l = true → (p :: l).Pairwise fun a b => a.cps.toList ≤ b.cps.toList
  | p, [], _ => by simp
  | p, x :: r, h => by
    have h' : ltCps x.cps.toList p.cps.toList = false ∧ risingS x r = true := by simpa [risingS] using h
    have ih := risingS_pw x r h'.2
    have hx : p.cps.toList ≤ x.cps.toList := by
      have := h'.1
      rw [ltCps_eq] at this
      exact List.not_lt.mp (of_decide_eq_false this)
    refine List.pairwise_cons.mpr ⟨fun y hy => ?_, ih⟩
    rcases List.mem_cons.mp hy with rfl | hy
    · exact hx
    · exact List.le_trans hx ((List.pairwise_cons.mp ih).1 y hy)
theorem sortedS_pw : ∀ l : List Str, sortedS l = true → l.Pairwise fun a b => a.cps.toList ≤ b.cps.toList
  | [], _ => .nil
  | x :: r, h => risingS_pw x r h
theorem str_ext {a b : Str} (h : a.cps.toList = b.cps.toList) : a = b := by
  obtain ⟨⟨a⟩⟩ := a
  obtain ⟨⟨b⟩⟩ := b
  simp at h
  rw [h]
theorem sorted_one {xs ys zs : List Str} (h1 : ys.Perm xs) (h2 : sortedS ys = true) (h3 : zs.Perm xs) (h4 : sortedS zs = true) : ys = zs :=
  List.Perm.eq_of_pairwise (fun a b _ _ h h' => str_ext (List.le_antisymm h h')) (sortedS_pw _ h2) (sortedS_pw _ h4) (h1.trans h3.symm)
def leS (a b : Str) : Bool := !ltCps b.cps.toList a.cps.toList
theorem leS_iff {a b : Str} : leS a b = true ↔ a.cps.toList ≤ b.cps.toList := by
  unfold leS
  rw [ltCps_eq, Bool.not_eq_true', decide_eq_false_iff_not]
  exact List.not_lt
/-- the names, ascending -/
def srt (xs : List Str) : List Str := xs.mergeSort leS
theorem srt_perm (xs : List Str) : (srt xs).Perm xs := List.mergeSort_perm xs leS
theorem srt_sorted (xs : List Str) : sortedS (srt xs) = true := by
  have h := List.pairwise_mergeSort (le := leS) (fun a b c h1 h2 => leS_iff.mpr (List.le_trans (leS_iff.mp h1) (leS_iff.mp h2)))
    (fun a b => by
      rcases List.le_total a.cps.toList b.cps.toList with h | h
      · rw [leS_iff.mpr h, Bool.true_or]
      · rw [leS_iff.mpr h, Bool.or_true]) xs
  refine sortedS_of_pairwise _ (h.imp fun {a b} h => ?_)
  unfold leS at h
  simpa using h
theorem srt_eq {xs ys : List Str} (h1 : ys.Perm xs) (h2 : sortedS ys = true) : ys = srt xs := sorted_one h1 h2 (srt_perm xs) (srt_sorted xs)
theorem srt_srt {xs ys : List Str} (h : ys.Perm xs) : srt ys = srt xs := srt_eq ((srt_perm ys).trans h) (srt_sorted ys)
theorem srt_mem {xs : List Str} {n : Str} : n ∈ srt xs ↔ n ∈ xs := (srt_perm xs).mem_iff
theorem srt_nodup {xs : List Str} (h : xs.Nodup) : (srt xs).Nodup := (srt_perm xs).nodup_iff.mpr h

/-! ### nets: names, and the needs of each -/
/-- a set of values each of which needs one of the set -/
def Stuck (ns : List Str) (rw : Str → List Str) : Prop := ∃ S : Str → Prop, (∃ n, S n) ∧ ∀ n, S n → n ∈ ns ∧ ∃ m, m ∈ rw n ∧ S m
theorem Stuck.of {ns ns' : List Str} {rw rw' : Str → List Str} (h : Stuck ns rw) (hn : ∀ n, n ∈ ns → n ∈ ns') (hr : ∀ n, n ∈ ns → ∀ m, m ∈ rw n → m ∈ rw' n) : Stuck ns' rw' := by
  obtain ⟨S, h0, h1⟩ := h
  refine ⟨S, h0, fun n hS => ?_⟩
  obtain ⟨a, m, b, c⟩ := h1 n hS
  exact ⟨hn n a, m, hr n a m b, c⟩
/-- order(): what is found so far -/
structure OrdInv (ns : List Str) (rw : Str → List Str) (found : List Str) : Prop where
  nd : found.Nodup
  sub : ∀ x, x ∈ found → x ∈ ns
  free : ∀ S : Str → Prop, (∀ n, S n → n ∈ ns ∧ ∃ m, m ∈ rw n ∧ S m) → ∀ x, x ∈ found → ¬ S x
theorem OrdInv.nil (ns : List Str) (rw : Str → List Str) : OrdInv ns rw [] := ⟨List.nodup_nil, fun _ h => (nomatch h), fun _ _ _ h => (nomatch h)⟩
theorem OrdInv.step {ns : List Str} {rw : Str → List Str} {found : List Str} (I : OrdInv ns rw found) {x : Str} (hx : x ∈ ns) (hn : ¬ x ∈ found) (hr : ∀ m, m ∈ rw x → m ∈ found) : OrdInv ns rw (found ++ [x]) := by
  refine ⟨?_, fun y hy => ?_, fun S hS y hy hSy => ?_⟩
  · refine List.nodup_append.mpr ⟨I.nd, by simp, fun a ha b hb e => ?_⟩
    have : b = x := by simpa using hb
    exact hn (this ▸ e ▸ ha)
  · rcases List.mem_append.mp hy with h | h
    · exact I.sub y h
    · rw [List.mem_singleton.mp h]; exact hx
  · rcases List.mem_append.mp hy with h | h
    · exact I.free S hS y h hSy
    · rw [List.mem_singleton.mp h] at hSy
      obtain ⟨_, m, hm, hSm⟩ := hS x hSy
      exact I.free S hS m (hr m hm) hSm
theorem all_of_len {ns found : List Str} (nd : found.Nodup) (sub : ∀ x, x ∈ found → x ∈ ns) (h : ns.length ≤ found.length) : ∀ x, x ∈ ns → x ∈ found := fun x hx => by
  rcases Classical.em (x ∈ found) with hf | hf
  · exact hf
  · have nd' : (x :: found).Nodup := List.nodup_cons.mpr ⟨hf, nd⟩
    have := nd'.length_le_of_subset (l₂ := ns) fun y hy => by
      rcases List.mem_cons.mp hy with rfl | hy
      · exact hx
      · exact sub y hy
    simp at this
    omega
theorem OrdInv.done {ns : List Str} {rw : Str → List Str} {found : List Str} (I : OrdInv ns rw found) (h : ns.length ≤ found.length) : ¬ Stuck ns rw := fun ⟨S, ⟨n, hn⟩, hS⟩ =>
  I.free S hS n (all_of_len I.nd I.sub h n (hS n hn).1) hn
theorem OrdInv.stuck {ns : List Str} {rw : Str → List Str} {found : List Str} (I : OrdInv ns rw found) (hs : ∀ n, n ∈ ns → ∀ m, m ∈ rw n → m ∈ ns) (nd : ns.Nodup) (hl : found.length < ns.length) (h : ∀ n, n ∈ ns → ¬ n ∈ found → ∃ m, m ∈ rw n ∧ ¬ m ∈ found) : Stuck ns rw := by
  refine ⟨fun n => n ∈ ns ∧ ¬ n ∈ found, ?_, fun n hn => ?_⟩
  · rcases Classical.em (∃ n, n ∈ ns ∧ ¬ n ∈ found) with e | e
    · exact e
    · have := nd.length_le_of_subset (l₂ := found) fun y hy => by
        rcases Classical.em (y ∈ found) with q | q
        · exact q
        · exact (e ⟨y, hy, q⟩).elim
      omega
  · obtain ⟨m, h1, h2⟩ := h n hn.1 hn.2
    exact ⟨hn.1, m, h1, hs n hn.1 m h1, h2⟩
/-- has_ring: what is left -/
structure RingInv (ns : List Str) (rw : Str → List Str) (ks : List Str) : Prop where
  nd : ks.Nodup
  sub : ∀ x, x ∈ ks → x ∈ ns
  keep : ∀ S : Str → Prop, (∀ n, S n → n ∈ ns ∧ ∃ m, m ∈ rw n ∧ S m) → ∀ x, S x → x ∈ ks
theorem RingInv.start {ns : List Str} {rw : Str → List Str} (nd : ns.Nodup) : RingInv ns rw ns := ⟨nd, fun _ h => h, fun _ hS x hx => (hS x hx).1⟩
theorem RingInv.step {ns : List Str} {rw : Str → List Str} {ks : List Str} (I : RingInv ns rw ks) {ready : List Str} (hr : ∀ x, x ∈ ready → ∀ m, m ∈ rw x → ¬ m ∈ ks) : RingInv ns rw (ks.filter fun k => !decide (k ∈ ready)) := by
  refine ⟨nodup_filter I.nd, fun x hx => I.sub x (List.mem_filter.mp hx).1, fun S hS x hx => ?_⟩
  refine List.mem_filter.mpr ⟨I.keep S hS x hx, ?_⟩
  rcases Classical.em (x ∈ ready) with q | q
  · obtain ⟨_, m, hm, hSm⟩ := hS x hx
    exact (hr x q m hm (I.keep S hS m hSm)).elim
  · simpa using q
theorem RingInv.done {ns : List Str} {rw : Str → List Str} (I : RingInv ns rw []) : ¬ Stuck ns rw := fun ⟨S, ⟨n, hn⟩, hS⟩ => nomatch I.keep S hS n hn
theorem RingInv.stuck {ns : List Str} {rw : Str → List Str} {ks : List Str} (I : RingInv ns rw ks) (h0 : ks ≠ []) (h : ∀ n, n ∈ ks → ∃ m, m ∈ rw n ∧ m ∈ ks) : Stuck ns rw := by
  refine ⟨fun n => n ∈ ks, ?_, fun n hn => ⟨I.sub n hn, h n hn⟩⟩
  cases ks with
  | nil => exact (h0 rfl).elim
  | cons x r => exact ⟨x, List.mem_cons_self⟩

/-! ### what a value needs, also by others -/
inductive Tr (rw : Str → List Str) : Str → Str → Prop
  | one {n m : Str} : m ∈ rw n → Tr rw n m
  | more {n k m : Str} : Tr rw n k → m ∈ rw k → Tr rw n m
def RT (rw : Str → List Str) (n m : Str) : Prop := m = n ∨ Tr rw n m
theorem Tr.in_ns {ns : List Str} {rw : Str → List Str} (hs : ∀ n, n ∈ ns → ∀ m, m ∈ rw n → m ∈ ns) {n m : Str} (hn : n ∈ ns) (h : Tr rw n m) : m ∈ ns := by
  induction h with
  | one h => exact hs n hn _ h
  | more _ h ih => exact hs _ ih _ h
/-- reaches(): what is found so far, of which the first `at` are looked at -/
structure ReachInv (ns : List Str) (rw : Str → List Str) (n : Str) (found : List Str) (i : Nat) : Prop where
  nd : found.Nodup
  tr : ∀ x, x ∈ found → Tr rw n x
  fst : ∀ m, m ∈ rw n → m ∈ found
  cl : ∀ j x, j < i → found[j]? = some x → ∀ m, m ∈ rw x → m ∈ found
theorem ReachInv.start {ns : List Str} {rw : Str → List Str} {n : Str} (nd : (rw n).Nodup) : ReachInv ns rw n (rw n) 0 := ⟨nd, fun _ h => .one h, fun _ h => h, fun _ _ h => absurd h (Nat.not_lt_zero _)⟩
theorem ReachInv.step {ns : List Str} {rw : Str → List Str} {n : Str} {found : List Str} {i : Nat} (I : ReachInv ns rw n found i) {x : Str} (hx : found[i]? = some x) (nd : (rw x).Nodup) : ReachInv ns rw n (found ++ (rw x).filter fun m => !decide (m ∈ found)) (i + 1) := by
  have hi : i < found.length := (List.getElem?_eq_some_iff.mp hx).1
  refine ⟨List.nodup_append.mpr ⟨I.nd, nodup_filter nd, fun a ha b hb e => ?_⟩, fun y hy => ?_, fun m hm => List.mem_append_left _ (I.fst m hm), fun j y hj hy m hm => ?_⟩
  · have h2 := (List.mem_filter.mp hb).2
    rw [← e] at h2
    simp [ha] at h2
  · rcases List.mem_append.mp hy with h | h
    · exact I.tr y h
    · exact .more (I.tr x (List.mem_of_getElem? hx)) (List.mem_filter.mp h).1
  · have hjl : j < found.length := by omega
    rw [List.getElem?_append_left hjl] at hy
    rcases Nat.lt_or_ge j i with h | h
    · exact List.mem_append_left _ (I.cl j y h hy m hm)
    · have e : j = i := by omega
      subst e
      rw [hx] at hy
      cases hy
      rcases Classical.em (m ∈ found) with q | q
      · exact List.mem_append_left _ q
      · exact List.mem_append_right _ (List.mem_filter.mpr ⟨hm, by simpa using q⟩)
theorem ReachInv.small {ns : List Str} {rw : Str → List Str} {n : Str} {found : List Str} {i : Nat} (I : ReachInv ns rw n found i) (hs : ∀ n, n ∈ ns → ∀ m, m ∈ rw n → m ∈ ns) (hn : n ∈ ns) : found.length ≤ ns.length :=
  I.nd.length_le_of_subset fun x hx => (I.tr x hx).in_ns hs hn
theorem ReachInv.done {ns : List Str} {rw : Str → List Str} {n : Str} {found : List Str} {i : Nat} (I : ReachInv ns rw n found i) (hi : found.length ≤ i) (x : Str) : x ∈ found ↔ Tr rw n x := by
  refine ⟨I.tr x, fun h => ?_⟩
  induction h with
  | one h => exact I.fst _ h
  | more _ h ih =>
    obtain ⟨j, hj, e⟩ := List.getElem_of_mem ih
    exact I.cl j _ (by omega) (List.getElem?_eq_some_iff.mpr ⟨hj, e⟩) _ h
/-- ways: k turns of the law's own search -/
structure WaysInv (ns : List Str) (rw : Str → List Str) (n : Str) (ways : List Str) (k : Nat) : Prop where
  fst : n ∈ ways
  rt : ∀ x, x ∈ ways → RT rw n x
  len : ways.length ≤ 6 ^ k
  cl : (∀ x, x ∈ ways → ∀ m, m ∈ rw x → m ∈ ways) ∨ k + 1 ≤ (ns.filter fun x => decide (x ∈ ways)).length
def waysNext (rw : Str → List Str) (ways : List Str) : List Str := ways ++ (ways.flatMap rw).filter fun m => !decide (m ∈ ways)
theorem WaysInv.start {ns : List Str} {rw : Str → List Str} {n : Str} (hn : n ∈ ns) : WaysInv ns rw n [n] 0 := by
  refine ⟨by simp, fun x hx => .inl (by simpa using hx), by simp, .inr ?_⟩
  have : 0 < (ns.filter fun x => decide (x ∈ [n])).length := List.length_pos_iff_exists_mem.mpr ⟨n, List.mem_filter.mpr ⟨hn, by simp⟩⟩
  omega
theorem flatMap_len {α β : Type} {f : α → List β} {c : Nat} : ∀ {l : List α}, (∀ x, x ∈ l → (f x).length ≤ c) → (l.flatMap f).length ≤ l.length * c
  | [], _ => by simp
  | x :: l, h => by
    have h1 := h x List.mem_cons_self
    have h2 := flatMap_len (l := l) fun y hy => h y (List.mem_cons_of_mem _ hy)
    rw [List.flatMap_cons, List.length_append, List.length_cons, Nat.succ_mul]
    omega
theorem filter_le {α : Type} {p q : α → Bool} (h : ∀ x, p x = true → q x = true) : ∀ l : List α, (l.filter p).length ≤ (l.filter q).length
  | [] => by simp
  | y :: l => by
    have ih := filter_le h l
    rw [List.filter_cons, List.filter_cons]
    cases hp : p y with
    | true =>
      rw [if_pos rfl, if_pos (h y hp)]
      simpa using ih
    | false =>
      rw [if_neg (by simp)]
      split
      · simp; omega
      · exact ih
theorem filter_lt {α : Type} {p q : α → Bool} (h : ∀ x, p x = true → q x = true) : ∀ {l : List α}, (∃ x, x ∈ l ∧ q x = true ∧ p x = false) → (l.filter p).length < (l.filter q).length
  | [], ⟨x, hx, _⟩ => (nomatch hx)
  | y :: l, ⟨x, hx, h1, h2⟩ => by
    have mono := filter_le h l
    rw [List.filter_cons, List.filter_cons]
    rcases List.mem_cons.mp hx with e | hx
    · subst e
      rw [h1, h2, if_neg (by simp), if_pos rfl]
      simp; omega
    · have ih := filter_lt h (l := l) ⟨x, hx, h1, h2⟩
      cases hp : p y with
      | true =>
        rw [if_pos rfl, if_pos (h y hp)]
        simpa using ih
      | false =>
        rw [if_neg (by simp)]
        split
        · simp; omega
        · exact ih
theorem WaysInv.step {ns : List Str} {rw : Str → List Str} {n : Str} {ways : List Str} {k : Nat} (I : WaysInv ns rw n ways k) (hs : ∀ n, n ∈ ns → ∀ m, m ∈ rw n → m ∈ ns) (hl : ∀ n, n ∈ ns → (rw n).length ≤ 5) (hn : n ∈ ns) : WaysInv ns rw n (waysNext rw ways) (k + 1) := by
  have inn : ∀ x, x ∈ ways → x ∈ ns := fun x hx => by
    rcases I.rt x hx with e | t
    · rw [e]; exact hn
    · exact t.in_ns hs hn
  refine ⟨List.mem_append_left _ I.fst, fun x hx => ?_, ?_, ?_⟩
  · rcases List.mem_append.mp hx with h | h
    · exact I.rt x h
    · obtain ⟨y, hy, hxy⟩ := List.mem_flatMap.mp (List.mem_filter.mp h).1
      rcases I.rt y hy with e | t
      · rw [e] at hxy; exact .inr (.one hxy)
      · exact .inr (.more t hxy)
  · have h1 : (ways.flatMap rw).length ≤ ways.length * 5 := flatMap_len fun x hx => hl x (inn x hx)
    have h2 := List.length_filter_le (fun m => !decide (m ∈ ways)) (ways.flatMap rw)
    have h3 := I.len
    rw [waysNext, List.length_append, Nat.pow_succ]
    omega
  · rcases Classical.em (∀ x, x ∈ ways → ∀ m, m ∈ rw x → m ∈ ways) with c | c
    · left
      have e : (ways.flatMap rw).filter (fun m => !decide (m ∈ ways)) = [] := by
        refine List.filter_eq_nil_iff.mpr fun m hm => ?_
        obtain ⟨y, hy, hmy⟩ := List.mem_flatMap.mp hm
        simp [c y hy m hmy]
      rw [waysNext, e, List.append_nil]
      exact c
    · right
      obtain ⟨x, hx⟩ := Classical.not_forall.mp c
      obtain ⟨hx, hx2⟩ := Classical.not_imp.mp hx
      obtain ⟨m, hm⟩ := Classical.not_forall.mp hx2
      obtain ⟨hm, hm2⟩ := Classical.not_imp.mp hm
      have k1 : k + 1 ≤ (ns.filter fun x => decide (x ∈ ways)).length := I.cl.elim (fun z => (c z).elim) id
      have lt := filter_lt (p := fun x => decide (x ∈ ways)) (q := fun x => decide (x ∈ waysNext rw ways)) (l := ns) (fun y hy => by
        have : y ∈ ways := of_decide_eq_true hy
        exact decide_eq_true (List.mem_append_left _ this)) ⟨m, hs x (inn x hx) m hm, decide_eq_true (List.mem_append_right _ (List.mem_filter.mpr ⟨List.mem_flatMap.mpr ⟨x, hx, hm⟩, by simpa using hm2⟩)), decide_eq_false hm2⟩
      omega
theorem WaysInv.done {ns : List Str} {rw : Str → List Str} {n : Str} {ways : List Str} {k : Nat} (I : WaysInv ns rw n ways k) (hk : ns.length ≤ k) (x : Str) : x ∈ ways ↔ RT rw n x := by
  have cl : ∀ x, x ∈ ways → ∀ m, m ∈ rw x → m ∈ ways := by
    rcases I.cl with c | c
    · exact c
    · have := List.length_filter_le (fun x => decide (x ∈ ways)) ns
      omega
  refine ⟨I.rt x, fun h => ?_⟩
  rcases h with e | t
  · rw [e]; exact I.fst
  · induction t with
    | one h => exact cl _ I.fst _ h
    | more _ h ih => exact cl _ ih _ h

/-! ### pairs, and those on rings -/
abbrev Pr := Str × Str
def pairsOf (ns : List Str) (rw : Str → List Str) : List Pr := ns.flatMap fun n => (rw n).map fun m => (n, m)
open Classical in
/-- the pairs whose second leads back to the first -/
noncomputable def onRings (ns : List Str) (rw : Str → List Str) : List Pr := (pairsOf ns rw).filter fun p => decide (RT rw p.2 p.1)
/-- the needs without some -/
def rwCut (rw : Str → List Str) (cut : List Pr) : Str → List Str := fun n => (rw n).filter fun m => !decide ((n, m) ∈ cut)

/-! ### rising tuples, two ways -/
def rising : Nat → Nat → Nat → List (List Nat)
  | 0, _, _ => [[]]
  | k + 1, low, size => (List.range' low (size - low)).flatMap fun f => (rising k (f + 1) size).map (f :: ·)
def lowOf (one : List Nat) : Nat := (one.getLast?.map (· + 1)).getD 0
def setsStep (size : Nat) (level : List (List Nat)) : List (List Nat) := level.flatMap fun one => (List.range' (lowOf one) (size - lowOf one)).map fun at_ => one ++ [at_]
def setsFrom (size : Nat) : Nat → List (List Nat) → List (List Nat)
  | 0, l => l
  | k + 1, l => setsStep size (setsFrom size k l)
theorem setsFrom_front (size : Nat) : ∀ (k : Nat) (l : List (List Nat)), setsFrom size (k + 1) l = setsFrom size k (setsStep size l)
  | 0, _ => rfl
  | k + 1, l => by
    show setsStep size (setsFrom size (k + 1) l) = setsStep size (setsFrom size k (setsStep size l))
    rw [setsFrom_front size k l]
theorem setsFrom_flat (size : Nat) {α : Type} (f : α → List (List Nat)) : ∀ (k : Nat) (l : List α), setsFrom size k (l.flatMap f) = l.flatMap fun x => setsFrom size k (f x)
  | 0, _ => rfl
  | k + 1, l => by
    show setsStep size (setsFrom size k (l.flatMap f)) = l.flatMap fun x => setsStep size (setsFrom size k (f x))
    rw [setsFrom_flat size f k l, setsStep, List.flatMap_assoc]
    rfl
theorem setsFrom_one (size : Nat) : ∀ (k : Nat) (pre : List Nat), setsFrom size k [pre] = (rising k (lowOf pre) size).map (pre ++ ·)
  | 0, pre => by simp [setsFrom, rising]
  | k + 1, pre => by
    rw [setsFrom_front]
    have e : setsStep size [pre] = (List.range' (lowOf pre) (size - lowOf pre)).flatMap fun f => [pre ++ [f]] := by
      rw [setsStep, List.flatMap_cons, List.flatMap_nil, List.append_nil]
      induction List.range' (lowOf pre) (size - lowOf pre) with
      | nil => rfl
      | cons a l ih => rw [List.map_cons, List.flatMap_cons, ih]; rfl
    rw [e, setsFrom_flat, rising, List.map_flatMap]
    congr 1
    funext f
    rw [setsFrom_one size k (pre ++ [f])]
    have : lowOf (pre ++ [f]) = f + 1 := by simp [lowOf]
    rw [this, List.map_map]
    congr 1
    funext x
    simp
theorem sets_rising (size k : Nat) : setsFrom size k [[]] = rising k 0 size := by
  rw [setsFrom_one]
  simp [lowOf]
theorem rising_len : ∀ (k low size : Nat), (rising k low size).length ≤ 2 ^ (size - low)
  | 0, low, size => by simp [rising]; exact Nat.one_le_two_pow
  | k + 1, low, size => by
    have key : ∀ (n low : Nat), low + n = size ∨ n = 0 → ((List.range' low n).flatMap fun f => (rising k (f + 1) size).map (f :: ·)).length + 1 ≤ 2 ^ n := by
      intro n
      induction n with
      | zero => intro low _; simp
      | succ n ih =>
        intro low h
        have h' : low + (n + 1) = size := by omega
        have q := ih (low + 1) (.inl (by omega))
        rw [List.range'_succ, List.flatMap_cons, List.length_append, List.length_map]
        have r := rising_len k (low + 1) size
        have e : size - (low + 1) = n := by omega
        rw [e] at r
        rw [Nat.pow_succ]
        omega
    rw [rising]
    rcases Nat.le_total low size with h | h
    · have := key (size - low) low (.inl (by omega))
      omega
    · have e : size - low = 0 := by omega
      rw [e]
      simp
theorem rising_mem : ∀ {k low size : Nat} {r : List Nat}, r ∈ rising k low size → ∀ i, i ∈ r → i < size
  | 0, _, _, r, h, i, hi => by
    simp [rising] at h
    subst h
    cases hi
  | k + 1, low, size, r, h, i, hi => by
    rw [rising] at h
    obtain ⟨f, hf, h⟩ := List.mem_flatMap.mp h
    obtain ⟨r', hr', rfl⟩ := List.mem_map.mp h
    obtain ⟨j, hj, e⟩ := List.mem_range'.mp hf
    rcases List.mem_cons.mp hi with q | q
    · omega
    · exact rising_mem hr' i q
theorem rising_size : ∀ {k low size : Nat} {r : List Nat}, r ∈ rising k low size → r.length = k
  | 0, _, _, r, h => by
    simp [rising] at h
    subst h
    rfl
  | k + 1, low, size, r, h => by
    rw [rising] at h
    obtain ⟨f, hf, h⟩ := List.mem_flatMap.mp h
    obtain ⟨r', hr', rfl⟩ := List.mem_map.mp h
    rw [List.length_cons, rising_size hr']

/-! ### the least cuts -/
def pick (ps : List Pr) (r : List Nat) : List Pr := r.filterMap fun i => ps[i]?
/-- the sets of so many pairs for which ok holds -/
def cutsOf (ok : List Pr → Bool) (ps : List Pr) (many : Nat) : List (List Pr) := ((rising many 0 ps.length).map (pick ps)).filter ok
def leastFrom (ok : List Pr → Bool) (ps : List Pr) : Nat → Nat → List (List Pr)
  | 0, _ => []
  | n + 1, many => if cutsOf ok ps many = [] then leastFrom ok ps n (many + 1) else cutsOf ok ps many
/-- the first of 0, 1, .. pairs for which there are any -/
def leastCuts (ok : List Pr → Bool) (ps : List Pr) : List (List Pr) := leastFrom ok ps (ps.length + 1) 0
open Classical in
noncomputable def okCut (ns : List Str) (rw : Str → List Str) : List Pr → Bool := fun cut => decide (¬ Stuck ns (rwCut rw cut))
noncomputable def answer (ns : List Str) (rw : Str → List Str) : List (List Pr) := leastCuts (okCut ns rw) (onRings (srt ns) rw)
end Fm
set_option Elab.async false
set_option linter.all false
set_option maxRecDepth 100000
set_option maxHeartbeats 2000000
namespace Fm
open PySem L2 PySem.Spec PyProof.Rows
/-! ### sum(lists, list) -/
/-- from the i-th on, k of them in a row -/
def catK (its : Nat → List Value) : Nat → Nat → List Value
  | _, 0 => []
  | i, k + 1 => its i ++ catK its (i + 1) k
theorem catK_len_step (its : Nat → List Value) (i k : Nat) : (catK its i (k + 1)).length = (its i).length + (catK its (i + 1) k).length := by
  show (its i ++ catK its (i + 1) k).length = _
  rw [List.length_append]
/-- what one state of the loop says: the iterator's place, the sum so far -/
structure SumSt (h0 h : Heap) (I ax S T : Addr) (items : Array Value) (its : Nat → List Value) (i : Nat) (acc : List Value) : Prop where
  it : h.IsListIter I ax i
  li : h.IsList ax items
  cell : ∃ c, IsL h S #[.ref T] c
  tot : ∃ m, IsL h T acc.toArray m
  tI : T ≠ I
  tS : T ≠ S
  item : ∀ j v, items[j]? = some v → ∃ b n, v = .ref b ∧ b ≠ I ∧ b ≠ S ∧ IsL h b (its j).toArray n
  old : ∀ b o, h0.get? b = some o → h.get? b = some o
section
variable {prog : Program} {w : World} {A : Around} {R : Result → Shared → Prop}
theorem sum_lists_loop (hh : A.in1.handled = none) {h0 : Heap} {I ax S : Addr} (hax : ax ≠ I) (hSI : S ≠ I) (hSax : S ≠ ax) (h0I : h0.get? I = none) (h0S : h0.get? S = none) {n0 : Nat} (hn0 : n0 ≤ S) (items : Array Value) (its : Nat → List Value) :
    ∀ (k i : Nat) (s : Shared) (T : Addr) (acc : List Value), items.size - i = k → i ≤ items.size → SumSt h0 s.heap I ax S T items its i acc → (acc ++ catK its i k).length ≤ sizeLine →
    (∀ h' tk T' m, (∀ b o, h0.get? b = some o → h'.get? b = some o) → IsL h' T' (acc ++ catK its i k).toArray m → (k = 0 ∧ T' = T ∨ n0 ≤ T') → R (.ok (.ret (.ref T'))) { s with heap := h', toks := tk }) →
    codeAny (model prog w) A (.builtin "sum.loop" ⟨[.ref I, .ref S, rawInt 2, rawInt 0], []⟩) R s := by
  have W := (Walks.list (prog := prog) (w := w) hh I ax hax items).toS
  intro k
  induction k with
  | zero =>
    intro i s T acc hk hi st hz fin
    obtain ⟨c, hc⟩ := st.cell
    obtain ⟨m, hm⟩ := st.tot
    have e : i = items.size := by omega
    subst e
    refine codeAny_builtin F.entry_sum_loop ?_
    rw [Around.under_plainId F.plain_sum_loop _]
    show wpAny _ A.in1 (seqItems? (.ref S) >>= _) _ _ s
    refine wpAny_bind (wpAny_seqItems hc rfl ?_)
    show wpAny _ A.in1 (tryCatch (pyNext (.ref I)) _ >>= _) _ _ s
    refine wpAny_bind (wpAny_tryCatch (W.done s _ _ ⟨st.it, st.li⟩ fun s' mv => ?_))
    have nI : T ∉ [I] := by simpa using st.tI
    obtain ⟨h', g', d', tk', os'⟩ := s'
    obtain rfl : g' = s.gens := mv.gens
    obtain rfl : d' = s.drawn := mv.drawn
    obtain rfl : os' = s.os := mv.os
    refine wpAny_pure (fin h' tk' T m (fun b o e => mv.heap b o (fun z => ?_) (st.old b o e)) ?_ (.inl ⟨rfl, rfl⟩))
    · rw [List.mem_singleton.mp z] at e
      rw [h0I] at e
      cases e
    · have q := mv.heap T _ nI hm
      simpa [catK] using q
  | succ k ih =>
    intro i s T acc hk hi st hz fin
    obtain ⟨c, hc⟩ := st.cell
    obtain ⟨m, hm⟩ := st.tot
    have hlt : i < items.size := by omega
    refine codeAny_builtin F.entry_sum_loop ?_
    rw [Around.under_plainId F.plain_sum_loop _]
    show wpAny _ A.in1 (seqItems? (.ref S) >>= _) _ _ s
    refine wpAny_bind (wpAny_seqItems hc rfl ?_)
    show wpAny _ A.in1 (tryCatch (pyNext (.ref I)) _ >>= _) _ _ s
    refine wpAny_bind (wpAny_tryCatch (W.item i s _ _ hlt ⟨st.it, st.li⟩ fun v s' hv st' mv => ?_))
    obtain ⟨b, n, rfl, bI, bS, hb⟩ := st.item i v hv
    have mk : ∀ a o, a ≠ I → s.heap.get? a = some o → s'.heap.get? a = some o := fun a o ha e => mv.heap a o (by simpa using ha) e
    obtain ⟨h1, g1, d1, tk1, os1⟩ := s'
    obtain rfl : g1 = s.gens := mv.gens
    obtain rfl : d1 = s.drawn := mv.drawn
    obtain rfl : os1 = s.os := mv.os
    have mk : ∀ a o, a ≠ I → s.heap.get? a = some o → h1.get? a = some o := mk
    have st' : h1.IsListIter I ax (i + 1) ∧ h1.IsList ax items := st'
    have hm1 : IsL h1 T acc.toArray m := mk _ _ st.tI hm
    have hb1 : IsL h1 b (its i).toArray n := mk _ _ bI hb
    have hc1 : IsL h1 S #[.ref T] c := mk _ _ hSI hc
    have hzz : acc.length + (its i).length ≤ sizeLine := by
      rw [List.length_append, catK_len_step] at hz
      omega
    show wpAny _ A.in1 ((holding [Value.ref b] (binaryOp .Add (.ref T) (.ref b))).attempt >>= _) _ _ _
    refine wpAny_bind (wpAny_attempt (wpAny_holding (PySem.P.add_list (s := ⟨h1, s.gens, s.drawn, tk1, s.os⟩) hm1 hb1 ?_ (by simpa using hzz))))
    generalize hN : ({ cls := .type "list", data := .seq (acc.toArray ++ (its i).toArray) } : Obj) = N
    have kp : ∀ a o, h1.get? a = some o → (h1.push N).get? a = some o := fun a o e => Heap.get?_push_of_some _ e
    have hT : (h1.push N).get? h1.objs.size = some N := Heap.get?_push_size _ (by rw [← hN]; rfl)
    show wpAny _ A.in1 (updateSeq S (fun _ => #[.ref h1.objs.size]) >>= _) _ _ _
    have hS2 : (h1.push N).get? S = some { cls := .type "list", dict := none, data := .seq #[.ref T] c, slots := #[] } := kp _ _ hc1
    refine wpAny_bind (wpAny_updateSeq hS2 rfl ?_)
    have hS3 := Heap.get?_update_self (Obj.mapSeq fun _ => #[Value.ref h1.objs.size]) hS2 rfl
    refine wpAny_bind (wpAny_letGo ?_)
    refine wpAny_bind (wpAny_updateSeq hS3 rfl (wpAny_pure ⟨plainId_quiet F.plain_sum_loop _, ?_⟩))
    have neT : ∀ a o, h1.get? a = some o → a ≠ h1.objs.size := fun a o e => Nat.ne_of_lt (Heap.lt_size e)
    obtain ⟨oI, hoI, rI⟩ := st'.1
    have kp2 : ∀ a o, a ≠ S → h1.get? a = some o → (((h1.push N).update S (Obj.mapSeq fun _ => #[Value.ref h1.objs.size])).update S (Obj.mapSeq fun _ => #[Value.ref h1.objs.size])).get? a = some o := fun a o ha e => by
      rw [Heap.get?_update_other _ _ (Ne.symm ha), Heap.get?_update_other _ _ (Ne.symm ha)]
      exact kp a o e
    have TS : h1.objs.size ≠ S := (neT _ _ hc1).symm
    refine ih (i + 1) _ h1.objs.size (acc ++ its i) (by omega) hlt ⟨?_, ?_, ⟨_, Heap.get?_update_self _ hS3 rfl⟩, ⟨0, ?_⟩, (neT _ _ hoI).symm, TS, fun j v hj => ?_, fun a o e => ?_⟩ ?_ fun h' tk T' m' old' hT' fr => ?_
    · exact st'.1.at fun o e => kp2 I o (Ne.symm hSI) e
    · obtain ⟨oa, hoa, ra⟩ := st'.2
      exact ⟨oa, kp2 ax oa (Ne.symm hSax) hoa, ra⟩
    · show Heap.get? _ _ = _
      rw [Heap.get?_update_other _ _ (Ne.symm TS), Heap.get?_update_other _ _ (Ne.symm TS), hT, ← hN]
      simp
    · obtain ⟨b', n', rfl, b1, b2, hb'⟩ := st.item j v hj
      exact ⟨b', n', rfl, b1, b2, kp2 _ _ b2 (mk _ _ b1 hb')⟩
    · have aI : a ≠ I := fun z => by rw [z, h0I] at e; cases e
      have aS : a ≠ S := fun z => by rw [z, h0S] at e; cases e
      exact kp2 a o aS (mk a o aI (st.old a o e))
    · rw [List.append_assoc]
      exact hz
    · rw [List.append_assoc] at hT'
      refine fin h' tk T' m' old' hT' (.inr ?_)
      rcases fr with ⟨_, rfl⟩ | fr
      · exact Nat.le_trans hn0 (Nat.le_of_lt (Heap.lt_size hc1))
      · exact fr
end
theorem args_sum2 (a b : Value) : argsOk "sum" ⟨[a, b], []⟩ := by unfold argsOk; kernel_rfl
section
variable {prog : Program} {w : World} {A : Around} {E : Value → Shared → Prop} {s : Shared}
theorem call_sum_lists (hh : A.handled = none) {l t0 : Addr} {items : Array Value} {its : Nat → List Value} {acc : List Value} {m : Nat} {Q : Value → Shared → Prop} (hl : s.heap.IsList l items) (ht : IsL s.heap t0 acc.toArray m)
    (hi : ∀ j v, items[j]? = some v → ∃ b n, v = .ref b ∧ IsL s.heap b (its j).toArray n) (hz : (acc ++ catK its 0 items.size).length ≤ sizeLine)
    (h : ∀ h' tk T' m, (∀ b o, s.heap.get? b = some o → h'.get? b = some o) → IsL h' T' (acc ++ catK its 0 items.size).toArray m → (items.size = 0 ∧ T' = t0 ∨ s.heap.objs.size ≤ T') → Q (.ref T') { s with heap := h', toks := tk }) :
    wpAny (model prog w) A (call (.builtin "sum") [.ref l, .ref t0]) Q E s := by
  refine call_function_tree F.kind_sum F.plain_sum F.entry_sum (args_sum2 _ _) ?_
  have hh1 : A.in1.handled = none := hh
  unfold Builtin.«sum»
  simp only [List.length_cons, List.length_nil]
  rw [if_neg (by decide)]
  refine wpAny_bind (wpAny_of_eq (show Builtin.Builtins.bindParams "sum" ["start"] 0 ⟨[.ref t0], []⟩ = pure [some (.ref t0)] from rfl) ?_)
  refine wpAny_bind (wpAny_pyIter_list hl ?_)
  generalize hI : ({ cls := .type "list_iterator", data := .fields #[.ref l, .int 0 0] } : Obj) = oI
  have kp : ∀ a o, s.heap.get? a = some o → (s.heap.push oI).get? a = some o := fun a o e => Heap.get?_push_of_some _ e
  have gI : (s.heap.push oI).get? s.heap.objs.size = some oI := Heap.get?_push_size _ (by rw [← hI]; rfl)
  refine wpAny_bind (wpAny_pure ?_)
  have hT : Shared.TypeIs { s with heap := s.heap.push oI } (.ref t0) "list" := ⟨_, kp _ _ ht, rfl⟩
  simp only [List.forIn_cons, List.forIn_nil]
  refine wpAny_bind (wpAny_bind (wpAny_bind (wpAny_isInstance (T := "list") (b := false) hT F.sub_list_str ?_)))
  simp only [Bool.false_eq_true, if_false]
  refine wpAny_pure (wpAny_bind (wpAny_bind (wpAny_isInstance (T := "list") (b := false) hT F.sub_list_bytes ?_)))
  simp only [Bool.false_eq_true, if_false]
  refine wpAny_pure (wpAny_bind (wpAny_bind (wpAny_isInstance (T := "list") (b := false) hT F.sub_list_bytearray ?_)))
  simp only [Bool.false_eq_true, if_false]
  refine wpAny_pure (wpAny_pure ?_)
  refine wpAny_bind (wpAny_newObj_type ?_)
  generalize hS : ({ cls := .type "list", data := .seq #[.ref t0] } : Obj) = oS
  have sz1 : (s.heap.push oI).objs.size = s.heap.objs.size + 1 := Heap.size_push _ _
  have gS : ((s.heap.push oI).push oS).get? (s.heap.push oI).objs.size = some oS := Heap.get?_push_size _ (by rw [← hS]; rfl)
  have kp2 : ∀ a o, s.heap.get? a = some o → ((s.heap.push oI).push oS).get? a = some o := fun a o e => Heap.get?_push_of_some _ (kp a o e)
  have lt : ∀ a o, s.heap.get? a = some o → a ≠ s.heap.objs.size ∧ a ≠ (s.heap.push oI).objs.size := fun a o e => by
    have := Heap.lt_size e
    rw [sz1]
    exact ⟨Nat.ne_of_lt this, Nat.ne_of_lt (Nat.lt_succ_of_lt this)⟩
  obtain ⟨ol, hol, rl⟩ := id hl
  refine wpAny_pure ⟨plainId_quiet F.plain_sum_loop _, sum_lists_loop (h0 := s.heap) (I := s.heap.objs.size) (ax := l) (S := (s.heap.push oI).objs.size) hh1 (lt _ _ hol).1 (by rw [sz1]; exact Nat.succ_ne_self _) (lt _ _ hol).2.symm
    (Heap.get?_none_of_le (Nat.le_refl _)) (Heap.get?_none_of_le (by rw [sz1]; exact Nat.le_succ _)) (n0 := s.heap.objs.size) (by rw [sz1]; exact Nat.le_succ _) items its items.size 0 _ t0 acc rfl (Nat.zero_le _) ⟨⟨oI, Heap.get?_push_of_some _ gI, by rw [← hI], by rw [← hI]; rfl⟩, ⟨ol, kp2 _ _ hol, rl⟩, ⟨0, ?_⟩, ⟨m, kp2 _ _ ht⟩, (lt _ _ ht).1, (lt _ _ ht).2, fun j v hj => ?_, kp2⟩ hz fun h' tk T' m' old hT' fr => ?_⟩
  · show Heap.get? _ _ = _
    rw [gS, ← hS]
  · obtain ⟨b, n, e, hb⟩ := hi j v hj
    exact ⟨b, n, e, (lt _ _ hb).1, (lt _ _ hb).2, kp2 _ _ hb⟩
  · exact h h' tk T' m' old hT' fr
end
/-- sum(xs, ys), xs a list of lists, not empty -/
def rSumL (K : PySem.W.Frag) : List V → Hp → VK → Prop := fun vs H Q => ∃ (a t : Addr) (xs : List V) (zs : List (List V)) (ys : List V), vs = [V.ref a, V.ref t] ∧ SqL K H a xs ∧ H t = some (.lst ys) ∧ xs ≠ [] ∧
  Paired (fun x z => ∃ b, x = V.ref b ∧ H b = some (.lst z)) xs zs ∧ (ys ++ zs.flatten).length ≤ sizeLine ∧ ∀ p, H p = none → Q (.ref p) (upd H p (.lst (ys ++ zs.flatten)))
section
variable {X : Cx}
theorem vals_catK {its : Nat → List Value} : ∀ {zs : List (List V)} {i : Nat}, (∀ (j : Nat) z, zs[j]? = some z → Vals z (its (i + j))) → Vals zs.flatten (catK its i zs.length)
  | [], _, _ => .nil
  | z :: zs, i, h => by
    rw [List.flatten_cons, List.length_cons]
    exact (h 0 z rfl).append (vals_catK fun j z' e => by
      have := h (j + 1) z' (by simpa using e)
      rwa [show i + 1 + j = i + (j + 1) by omega])
theorem paired_at {H : Hp} {pins : List (Addr × Obj)} {σ : L2.St} {s : Shared} (I : Inv X pins σ H s) : ∀ {xs : List V} {zs : List (List V)}, Paired (fun x z => ∃ b, x = V.ref b ∧ H b = some (.lst z)) xs zs →
    ∀ (j : Nat) z, zs[j]? = some z → ∃ (its : List Value) (b : Addr) (n : Nat), xs[j]? = some (V.ref b) ∧ Vals z its ∧ IsL s.heap b its.toArray n := by
  intro xs zs hp
  induction hp with
  | nil => intro j z e; simp at e
  | cons h1 _ ih =>
    intro j z e
    cases j with
    | zero =>
      obtain ⟨b, rfl, hb⟩ := h1
      obtain ⟨_, bv, n, rb, _, hbv⟩ := I.lstM hb
      simp at e
      subst e
      exact ⟨bv, b, n, rfl, rb, hbv⟩
    | succ j =>
      obtain ⟨its, b, n, h1, h2⟩ := ih j z (by simpa using e)
      exact ⟨its, b, n, by simpa using h1, h2⟩
theorem cr_sumL (hc : X.calm = true) : CallR X (.builtin "sum") (rSumL X.K) := by
  intro pins s σ H vs us Q I r h
  obtain ⟨a, t, xs, zs, ys, rfl, hs, ht, hne, hp, hz, q⟩ := h
  obtain ⟨its0, rv, hl, _⟩ := I.list hs
  obtain ⟨_, yv, m, ry, _, hty⟩ := I.lstM ht
  obtain ⟨u1, u2, rfl, r1, r2⟩ : ∃ u1 u2, us = [u1, u2] ∧ RelV (V.ref a) u1 ∧ RelV (V.ref t) u2 := by
    cases r with
    | cons a1 b1 =>
      cases b1 with
      | cons a2 b2 =>
        cases b2
        exact ⟨_, _, rfl, a1, a2⟩
  cases r1
  cases r2
  have hlen : xs.length = zs.length := Paired.length hp
  have key := paired_at I hp
  have ex : ∀ j : Nat, ∃ its : List Value, ∀ z, zs[j]? = some z → ∃ (b : Addr) (n : Nat), xs[j]? = some (V.ref b) ∧ Vals z its ∧ IsL s.heap b its.toArray n := fun j => by
    cases e : zs[j]? with
    | none => exact ⟨[], fun z hz => by cases hz⟩
    | some z =>
      obtain ⟨its, b, n, h1, h2, h3⟩ := key j z e
      exact ⟨its, fun z' hz => by cases hz; exact ⟨b, n, h1, h2, h3⟩⟩
  obtain ⟨its, hits⟩ := Classical.axiomOfChoice ex
  have hsz : its0.toArray.size = zs.length := by rw [List.size_toArray, ← rv.length, hlen]
  have vz : Vals (ys ++ zs.flatten) (yv ++ catK its 0 its0.toArray.size) := by
    rw [hsz]
    refine ry.append (vals_catK fun j z e => ?_)
    obtain ⟨b, n, _, h2, _⟩ := hits j z e
    simpa using h2
  refine call_sum_lists (I.ok.hd hc) hl.isList hty (its := its) (fun j v hj => ?_) (by rw [← vz.length]; exact hz) fun h' tk T' m' kp hT fr => ?_
  · have hj' : its0[j]? = some v := by simpa using hj
    have jl : j < zs.length := by
      have := (List.getElem?_eq_some_iff.mp hj').1
      rw [← rv.length, hlen] at this
      exact this
    obtain ⟨b, n, h1, _, h3⟩ := hits j zs[j] (List.getElem?_eq_getElem jl)
    obtain ⟨u, hu, ru⟩ := rv.get h1
    rw [hj'] at hu
    cases hu
    cases ru
    exact ⟨b, n, rfl, h3⟩
  · have hn : s.heap.objs.size ≤ T' := by
      rcases fr with ⟨e, _⟩ | e
      · rw [hsz, ← hlen] at e
        exact (hne (List.length_eq_zero_iff.mp e)).elim
      · exact e
    exact ⟨.ref T', upd H T' (.lst (ys ++ zs.flatten)), I.laid (t' := tk) kp hn ⟨hz, _, m', vz, hT⟩, rfl, q _ (I.hok.fresh hn)⟩
end
end Fm
set_option Elab.async false
set_option linter.all false
set_option maxRecDepth 100000
set_option maxHeartbeats 4000000
namespace Fm
open PySem L2 PySem.Spec PyProof.Rows
/-! ### len(set(t)), t a tuple of unlike texts -/
section
variable {prog : Program} {w : World} {A : Around} {R : Result → Shared → Prop} {I : Addr} {fp wr : List Addr} {G : Array GenState → Array GenState → Prop} {n : Nat} {P : Nat → Value → Prop} {St : Nat → Shared → Prop}
theorem set_loop_unlike (W : WalksS prog w A.in1 I fp wr G n P St) (S : Addr) (hSf : S ∉ fp) (xs : List Str) (hsz : xs.length = n) (hn1 : n < 1000) (nd : xs.Nodup) (hval : ∀ i v, P i v → ∃ x t, xs[i]? = some x ∧ v = .str x t) :
    ∀ (k i : Nat) (s : Shared), n - i = k → i ≤ n → St i s → s.heap.SetOf (PySem.strKind prog w) S (fun y => decide (y ∈ xs.take i)) i →
      (∀ s', Moved (S :: wr) G s s' → s'.heap.SetOf (PySem.strKind prog w) S (fun y => decide (y ∈ xs)) n → R (.ok (.ret .none)) s') →
      codeAny (model prog w) A (.builtin "set.update.loop" ⟨[.ref S, .ref I], []⟩) R s := by
  have hSw : S ∉ wr := fun h => hSf (W.sub _ h)
  intro k
  induction k with
  | zero =>
    intro i s hk hi hst hS hR
    have hin : i = n := by omega
    subst hin
    refine codeAny_builtin F.entry_set_update_loop ?_
    rw [Around.under_plainId F.plain_set_update_loop _]
    show wpAny _ A.in1 (pyNext (.ref I) >>= _) _ _ s
    refine wpAny_bind (W.done s _ _ hst fun s' mv => ?_)
    show wpAny _ A.in1 (ret Value.none) _ _ s'
    refine wpAny_pure (hR s' (mv.mono fun b hb => List.mem_cons_of_mem _ hb) ?_)
    rw [← hsz, List.take_length] at hS
    obtain ⟨o, es, ep, t, ho, more⟩ := hS
    rw [← hsz]
    exact ⟨o, es, ep, t, mv.heap S _ hSw ho, more⟩
  | succ k ih =>
    intro i s hk hi hst hS hR
    have hlt : i < n := by omega
    refine codeAny_builtin F.entry_set_update_loop ?_
    rw [Around.under_plainId F.plain_set_update_loop _]
    show wpAny _ A.in1 (pyNext (.ref I) >>= _) _ _ s
    refine wpAny_bind (W.item i s _ _ hlt hst fun v s' hP hst' mv => ?_)
    obtain ⟨x, t, hx, rfl⟩ := hval i v hP
    have hS' : s'.heap.SetOf (PySem.strKind prog w) S (fun y => decide (y ∈ xs.take i)) i := by
      obtain ⟨o, es, ep, tb, ho, more⟩ := hS
      exact ⟨o, es, ep, tb, mv.heap S _ hSw ho, more⟩
    have hxn : ¬ x ∈ xs.take i := fun hm => by
      obtain ⟨j, hj, e⟩ := List.getElem_of_mem hm
      rw [List.length_take] at hj
      have e2 : xs[j]? = some x := by
        rw [List.getElem_take] at e
        rw [List.getElem?_eq_getElem (by omega), e]
      have := nd_ix nd e2 hx
      omega
    show wpAny _ A.in1 (holding [Value.str x t] (setAdd S (.str x t)) >>= _) _ _ s'
    refine wpAny_bind (wpAny_holding ?_)
    unfold setAdd
    refine wpAny_holding (wpAny_bind ((PySem.strKind prog w).pyHash (k := x) (strKind_is _ _ _ _) ?_))
    refine wpAny_setAddHashed_of (knd := PySem.strKind prog w) (s := { s' with toks := s'.toks + 1 }) (strKind_is _ _ _ _) rfl hS' (by unfold scanBound; omega) fun h' same hS2 => ?_
    have hSi : h'.SetOf (PySem.strKind prog w) S (fun y => decide (y ∈ xs.take (i + 1))) (i + 1) := by
      refine SetOf_congr hS2 (fun y => ?_) (by rw [decide_eq_false hxn]; rfl)
      rw [List.take_add_one, hx, Option.toList_some]
      by_cases e1 : y ∈ xs.take i <;> by_cases e2 : y = x <;> simp [e1, e2]
    refine wpAny_pure ⟨plainId_quiet F.plain_set_update_loop _, ih (i + 1) _ (by omega) hlt (W.frame _ s' _ _ hst' (Nat.le_succ _) fun b hb o e => ?_) hSi fun s2 mv2 hS3 => ?_⟩
    · rw [same.2 b (fun z : b = S => hSf (by rw [← z]; exact hb))]
      exact e
    · refine hR s2 (Moved.trans W.gtrans ((mv.mono fun b hb => List.mem_cons_of_mem _ hb).then_heap (Nat.le_succ _) fun b o hb e => ?_) mv2) hS3
      rw [same.2 b (fun z : b = S => hb (by rw [z]; exact List.mem_cons_self))]
      exact e
end
section
variable {prog : Program} {w : World} {A : Around} {E : Value → Shared → Prop} {s : Shared}
theorem call_set_unlike {T IT : String} {l : Addr} {ol : Obj} {items : Array Value} {xs : List Str} {Q : Value → Shared → Prop} (hh : A.handled = none) (hol : s.heap.get? l = some ol) (hcl : ol.cls = .type T)
    (t1 : isSubtype (.type T) (.type "set") = pure false) (t2 : isSubtype (.type T) (.type "frozenset") = pure false) (t3 : (Value.type T == Value.type "dict") = false)
    (hpy : ∀ (A : Around) (s1 : Shared) (Q : Value → Shared → Prop) (E : Value → Shared → Prop), s1.heap.get? l = some ol → Q (.ref s1.heap.objs.size) { s1 with heap := s1.heap.push { cls := .type IT, data := .fields #[.ref l, .int 0 0] } } → wpAny (model prog w) A (pyIter (.ref l)) Q E s1)
    (hW : ∀ (A : Around) (I : Addr), A.handled = none → l ≠ I → ∃ St : Nat → Heap → Prop, WalksS prog w A I [I, l] [I] (fun a b => b = a) items.size (fun i v => items[i]? = some v) (fun i s => St i s.heap) ∧
      ∀ h : Heap, h.get? I = some { cls := .type IT, data := .fields #[.ref l, .int 0 0] } → h.get? l = some ol → St 0 h)
    (hi : StrsAre items.toList xs) (hn1 : xs.length < 1000) (nd : xs.Nodup)
    (h : ∀ (h' : Heap) (tk : Nat), h'.SetOf (PySem.strKind prog w) s.heap.objs.size (fun y => decide (y ∈ xs)) xs.length → (∀ b o, b < s.heap.objs.size → s.heap.get? b = some o → h'.get? b = some o) → Q (.ref s.heap.objs.size) { s with heap := h', toks := tk }) :
    wpAny (model prog w) A (call (.type "set") [.ref l]) Q E s := by
  obtain ⟨c, tl, hmro⟩ := F.called_set.mro
  have k1 := F.called_set.made
  have k2 := F.called_set.sub
  refine wpAny_call (codeAny_of_tree ?_)
  show wpAny _ _ (callAny (.type "set") _) _ _ _
  refine wpAny_pure ⟨Code.quiet_builtin _ (by decide +kernel), codeAny_builtin F.entry_type_call ?_⟩
  rw [Around.under_plain (weight_type_call_type "set" [.ref l] []) rfl]
  have k3 := F.called_set.notType
  have k4 := F.called_set.canCreate
  have k5 := F.typeCall_set_1 (.ref l)
  repeat (any_goals (first | assumption | wp_step))
  generalize hS0 : (fun led : Bool => ({ cls := .type "set", dict := none, data := .set #[] 0 (.fresh 0 0 led) } : Obj)) = mk
  refine codeAny_mono (code_set_new_1 (.ref l) (E := E) (Q₁ := fun ob s1 => ∃ led : Bool, ob = .ref s.heap.objs.size ∧ s1 = { s with heap := s.heap.push (mk led) }) fun led => ⟨led, rfl, by rw [← hS0]⟩) fun r s1 hr => ?_
  cases r with
  | error e => exact hr
  | ok fl =>
    cases fl with
    | ret ob =>
      obtain ⟨led, rfl, rfl⟩ := hr
      have eS : mk led = { cls := .type "set", dict := none, data := .set #[] 0 (.fresh 0 0 led) } := by rw [← hS0]
      have gS : (s.heap.push (mk led)).get? s.heap.objs.size = some { cls := .type "set", dict := none, data := .set #[] 0 (.fresh 0 0 led) } := by rw [eS]; exact Heap.get?_push_size _ rfl
      have hT : Shared.TypeIs { s with heap := s.heap.push (mk led) } (.ref s.heap.objs.size) "set" := ⟨_, gS, rfl⟩
      have i1 := F.called_set.init.lookup
      have i2 := F.called_set.init.bind (.ref s.heap.objs.size)
      repeat (any_goals (first | assumption | wp_step))
      refine codeAny_mono (codeAny_call_builtin (R := wants (fun r s2 => r = .none ∧ ∃ h' tk, s2 = { s with heap := h', toks := tk } ∧ h'.SetOf (PySem.strKind prog w) s.heap.objs.size (fun y => decide (y ∈ xs)) xs.length ∧
          (∀ b o, b < s.heap.objs.size → s.heap.get? b = some o → h'.get? b = some o)) E) F.called_set.init.plain F.entry_set_init (check_set_init_1 hT ?_)) fun r2 s2 hr2 => ?_
      · obtain ⟨ocls, odict, odata, oslots⟩ := ol
        simp only at hcl
        subst hcl
        have hol' : (s.heap.push (mk led)).get? l = some { cls := .type T, dict := odict, data := odata, slots := oslots } := Heap.get?_push_of_some _ hol
        unfold Builtin.«set.__init__» noKeywords Builtin.Frozenset.updateFrom
        generalize hPI : pyIter = PI
        wp_walk
        subst hPI
        refine hpy _ _ _ _ hol' (wpAny_bind (wpAny_runValue ?_))
        have hlS : l < s.heap.objs.size := Heap.lt_size hol
        have sz : (s.heap.push (mk led)).objs.size = s.heap.objs.size + 1 := Heap.size_push _ _
        have hh3 : A.in1.in1.in1.handled = none := hh
        have hneI : l ≠ (s.heap.push (mk led)).objs.size := by rw [sz]; exact Nat.ne_of_lt (Nat.lt_succ_of_lt hlS)
        have hsz : xs.length = items.size := by rw [← StrsAre.len_eq hi, Array.length_toList]
        obtain ⟨St, W, h0⟩ := hW A.in1.in1.in1 (s.heap.push (mk led)).objs.size hh3 hneI
        refine set_loop_unlike W s.heap.objs.size (fun z => ?_) xs hsz (by omega) nd (fun i v hv => ?_) (items.size - 0) 0 _ rfl (Nat.zero_le _) (h0 _ (Heap.get?_push_size _ rfl) (Heap.get?_push_of_some _ hol')) ?_ fun s' mv hS' => ?_
        · rw [sz] at z
          rcases List.mem_cons.mp z with z | z
          · exact absurd z (Nat.ne_of_lt (Nat.lt_succ_self _))
          · exact absurd (List.mem_singleton.mp z) (Nat.ne_of_gt hlS)
        · obtain ⟨t, e⟩ := SS.strs_at hi i v (by rw [Array.getElem?_toList]; exact hv)
          have il : i < xs.length := by
            rw [hsz]
            exact (Array.getElem?_eq_some_iff.mp hv).1
          exact ⟨xs[i], t, List.getElem?_eq_getElem il, by rw [e, List.getD_eq_getElem?_getD, List.getElem?_eq_getElem il]; rfl⟩
        · exact SetOf_congr ((setObjOf_fresh (knd := PySem.strKind prog w) led).setOf (Heap.get?_push_of_some _ gS) (by unfold scanBound; omega)) (fun _ => by simp) rfl
        · obtain ⟨h', g', d', tk', os'⟩ := s'
          obtain rfl : g' = s.gens := mv.gens
          obtain rfl : d' = s.drawn := mv.drawn
          obtain rfl : os' = s.os := mv.os
          show wpAny _ _ _ _ _ _
          refine wpAny_pure ?_
          show wpAny _ _ (ret Value.none) _ _ _
          rw [← hsz] at hS'
          refine wpAny_pure ⟨rfl, h', tk', rfl, hS', fun b o hb e => mv.heap b o (fun z => ?_) (Heap.get?_push_of_some _ (Heap.get?_push_of_some _ e))⟩
          rcases List.mem_cons.mp z with z | z
          · exact absurd z (Nat.ne_of_lt hb)
          · rw [List.mem_singleton.mp z, sz] at hb
            exact absurd hb (Nat.not_lt.mpr (Nat.le_succ _))
      · cases r2 with
        | error e => exact hr2
        | ok fl2 =>
          cases fl2 with
          | ret r =>
            obtain ⟨rfl, h', tk, rfl, hS', hk'⟩ := hr2
            repeat (any_goals (first | assumption | wp_step))
            exact h _ _ hS' hk'
          | _ => exact hr2.elim
    | _ => exact hr.elim
end
section
variable {X : Cx}
def tLenSetU (K : PySem.W.Frag) (ta : TE) : TE := fun σ H Q => ta σ H fun x H1 => ∃ (l : Addr) (xs : List Str), x = .ref l ∧ (SqT K H1 l (xs.map V.str) ∨ SqL K H1 l (xs.map V.str)) ∧ xs.length < 1000 ∧ xs.Nodup ∧ Q (.int xs.length) H1
theorem pe_lenSetU {a : Expr} {ta : TE} {p p2 q pos : Pos} (hc : X.calm = true) (hg : Gl X "len") (hm : X.mg "len" = none) (hg2 : Gl X "set") (hm2 : X.mg "set" = none) (ha : PE X a ta)
    (na : starEach [a] X.env = (false, eval a X.env) :: starEach [] X.env := by rfl) : PE X (.Call (.Name "len" p) [.Call (.Name "set" p2) [a] [] q] [] pos) (tLenSetU X.K ta) := by
  refine ⟨fun pins s σ H Q I h => ?_⟩
  refine Call_ (ld_blt I hg hm PySem.boot_len (callWith_builtin1 (args_cons ?_ rfl) rfl rfl))
  refine Call_ (ld_blt I hg2 hm2 boot_set (callWith_type1 (args_cons (thn (ha.run pins s σ H _ I h) fun v s1 ⟨x, H1, I1, r1, q1⟩ => args_nil ?_) na) na rfl))
  obtain ⟨l, xs, rfl, hq, h1, nd, q1⟩ := q1
  cases r1
  have fin : ∀ (h' : Heap) (tk : Nat), h'.SetOf (PySem.strKind X.prog X.w) s1.heap.objs.size (fun y => decide (y ∈ xs)) xs.length → (∀ b o, b < s1.heap.objs.size → s1.heap.get? b = some o → h'.get? b = some o) →
      wpAny (model X.prog X.w) X.A (spliced (backTo pos (starEach [] X.env))) (fun vs s2 => wpAny (model X.prog X.w) X.A (call (.builtin "len") (Value.ref s1.heap.objs.size :: vs)) (EP X pins σ Q) X.xe s2) X.xe { s1 with heap := h', toks := tk } := fun h' tk hS hk => by
    refine args_nil ?_
    obtain ⟨o, es, ep, t, ho, hex, hd, _, _, _, hf, hn⟩ := hS
    have I2 : Inv X pins σ H1 { s1 with heap := h', toks := tk } := I1.kept fun b o e => hk b o (Heap.lt_size e) e
    exact call_len_set ho hex hd hf (by rw [hn]; omega) ⟨.int xs.length, H1, I2.tok _, ⟨_, by rw [hn]⟩, q1⟩
  rcases hq with hq | hq
  · obtain ⟨its, r, pl, hz⟩ := I1.tuple hq
    obtain ⟨ol, hol, hc1, n, hd1⟩ := id pl
    refine call_set_unlike (T := "tuple") (IT := "tuple_iterator") (items := its.toArray) (I1.ok.hd hc) hol hc1 F.sub_tuple_set F.sub_tuple_frozenset (by decide) (fun A s1 Q E e hQ => wpAny_pyIter_tuple (items := its.toArray) ⟨ol, e, hc1, n, hd1⟩ hQ)
      (fun A I hA hne => ⟨fun i h => h.IsTupleIter I l i ∧ h.IsTuple l its.toArray, (Walks.tuple hA I l hne its.toArray).toS, fun h e1 e2 => ⟨⟨_, e1, rfl, rfl⟩, ⟨ol, e2, hc1, n, hd1⟩⟩⟩) (by simpa using strsAre_of r) h1 nd fin
  · obtain ⟨its, r, pl, hz⟩ := I1.list hq
    obtain ⟨ol, hol, hc1, n, hd1⟩ := id pl.isList
    refine call_set_unlike (T := "list") (IT := "list_iterator") (items := its.toArray) (I1.ok.hd hc) hol hc1 F.sub_list_set F.sub_list_frozenset (by decide) (fun A s1 Q E e hQ => wpAny_pyIter_list (items := its.toArray) ⟨ol, e, hc1, n, hd1⟩ hQ)
      (fun A I hA hne => ⟨fun i h => h.IsListIter I l i ∧ h.IsList l its.toArray, (Walks.list hA I l hne its.toArray).toS, fun h e1 e2 => ⟨⟨_, e1, rfl, rfl⟩, ⟨ol, e2, hc1, n, hd1⟩⟩⟩) (by simpa using strsAre_of r) h1 nd fin
end
end Fm
set_option Elab.async false
set_option linter.all false
set_option maxRecDepth 100000
set_option maxHeartbeats 2000000
namespace Fm
open PySem L2 PySem.Spec PyProof.Rows
section
variable {X : Cx}
/-! ### x not in t, t a tuple of data -/
def rNotInT (K : PySem.W.Frag) : R2 := fun x y H Q => ∃ d ds, Dp K H x d ∧ Dp K H y (.tuple ds) ∧ SeqAt.shaped d = true ∧ SeqAt.shaped (.tuple ds) = true ∧ Q (.bl (!ds.any fun z => PyData.eqv z d)) H
theorem op_notInT (hu : X.A.units + 65 < cLine) : OpR X (compareOp .NotIn) (rNotInT X.K) := by
  intro pins s σ H x y v u Q I rx ry h
  obtain ⟨d, ds, hd, he, sd, se, q⟩ := h
  obtain ⟨as, r1⟩ := Dp.reads I d x v hd rx
  obtain ⟨bs, r2⟩ := Dp.reads I (.tuple ds) y u he ry
  refine SeqAt.notIn_tuple_reads r2 r1 (SeqAt.canLay_of_shaped se) (SeqAt.canLay_of_shaped sd) (room_in_shaped sd hu) ?_
  exact ⟨.bl _, H, I, rfl, q⟩
/-! ### d != {} -/
def rNeEmpty : R2 := fun x y H Q => ∃ a b ks, x = .ref a ∧ y = .ref b ∧ H a = some (.dK ks) ∧ H b = some (.dK []) ∧ Q (.bl (!decide (ks = []))) H
theorem op_neEmpty (hu : X.A.units < cLine) : OpR X (compareOp .NotEq) rNeEmpty := by
  intro pins s σ H x y v u Q I rx ry h
  obtain ⟨a, b, ks, rfl, rfl, ea, eb, q⟩ := h
  cases rx
  cases ry
  obtain ⟨_, ya, va, ra, da⟩ := (show ObjOk X.prog X.w H s.heap a (.dK ks) from I.hok a _ ea)
  obtain ⟨_, yb, vb, rb, db⟩ := (show ObjOk X.prog X.w H s.heap b (.dK []) from I.hok b _ eb)
  cases rb
  refine PySem.W.keq_ne (knd := mixKind X.prog X.w) (r := true) ya yb da db hu (fun e => ?_) ⟨.bl (!decide (ks = [])), H, I, ?_, q⟩
  · cases va with
    | nil => exact .nil
    | cons _ _ => simp at e
  · cases ra with
    | nil => rfl
    | cons _ _ => rfl
end
/-! ### a != b by an own __eq__ alone, where they are equal -/
section
variable {M : Model} {prog : Program} {w : World} {A : Around} {E : Value → Shared → Prop} {s : Shared} {K : PySem.W.Frag} {x y C f : Addr} {ox : Obj} {od : Option Obj}
theorem objNe_true (X : K.In s.heap) (I : PySem.W.InstAt s.heap x ox C od) (hu : A.units < cLine) (hs : PySem.W.findIn K (.ref C) "__eq__" = some (some (.ref f))) (hf : PySem.W.isFn K (.ref f) = true) {Q : Fin → Shared → Prop}
    (h : wpAny (model prog w) A (call (.ref f) [.ref x, .ref y]) (fun v s' => v = .bool true ∧ Q (.done (.ret (.bool false))) s') E s) :
    wpAny (model prog w) A (Builtin.«object.__ne__» ⟨[.ref x, .ref y], []⟩) Q E s := by
  unfold Builtin.«object.__ne__»
  have h2 : wpAny (model prog w) A (callSpecialIfBound? (.ref x) (Str.ofString "__eq__") [.ref y]) (fun r s' => r = some (.bool true) ∧ Q (.done (.ret (.bool false))) s') E s :=
    PySem.W.ifBound_K X I hs hf (wpAny_mono h (fun v s' hv => ⟨by rw [hv.1], hv.2⟩) fun _ _ e => e)
  repeat (first
    | with_reducible refine wpAny_cRoomFor hu ?_
    | (refine wpAny_bind (m := callSpecialIfBound? (.ref x) (Str.ofString "__eq__") [.ref y]) (wpAny_mono h2 (fun r s' hr => ?_) fun _ _ e => e); obtain ⟨rfl, hq⟩ := hr)
    | exact hq
    | exact wpAny_pure hq
    | (refine wpAny_bind (m := truthy (.bool _)) (wpAny_truthy_bool ?_))
    | wp_step)
theorem ne_own {Q : Value → Shared → Prop} (X : K.In s.heap) (I : PySem.W.InstAt s.heap x ox C od) {oy : Obj} {od' : Option Obj} (I' : PySem.W.InstAt s.heap y oy C od') (hu : A.units + 1 < cLine) (hm : PySem.W.mroIn K C (.type "object") = some true)
    (hn : PySem.W.findIn K (.ref C) "__ne__" = some (some (.builtin "object.__ne__"))) (hs : PySem.W.findIn K (.ref C) "__eq__" = some (some (.ref f))) (hf : PySem.W.isFn K (.ref f) = true)
    (h : wpAny (model prog w) A.in1 (call (.ref f) [.ref x, .ref y]) (fun v s' => v = .bool true ∧ Q (.bool false) s') E s) :
    wpAny (model prog w) A (richCompare .NotEq (.ref x) (.ref y)) Q E s := by
  have call1 : wpAny (model prog w) A (call (.builtin "object.__ne__") [.ref x, .ref y]) (fun v s' => v = .bool false ∧ Q (.bool false) s') E s := by
    refine wpAny_call (codeAny_call_builtin F.cmp_object.ne.plain F.cmpEntry_ne (PySem.W.check_slot F.cmpKind_ne F.cmpSplit_ne (I.type.andThen (PySem.W.looks_mroIn X hm)) (F.cmpArgs_ne _ _) ?_))
    refine objNe_true (A := A.in1) X I hu hs hf (wpAny_mono h (fun v s' hv => ⟨hv.1, ?_⟩) fun _ _ e => e)
    exact ⟨rfl, hv.2⟩
  have bound : wpAny (model prog w) A (callSpecialIfBound? (.ref x) "__ne__" [.ref y]) (fun r s' => r = some (.bool false) ∧ Q (.bool false) s') E s := by
    simp only [callSpecialIfBound?, bindSpecialIfBound?]
    refine wpAny_holding (wpAny_bind (wpAny_bind (wpAny_bind (I.type.here ((PySem.W.looks_findIn X hn).here ?_)))))
    refine wpAny_bind (wpAny_askSetting (wpAny_ite ?_))
    have fin : wpAny (model prog w) A (call (.builtin "object.__ne__") ([.ref x] ++ [.ref y]) >>= fun v => pure (some v)) (fun r s' => r = some (.bool false) ∧ Q (.bool false) s') E s :=
      wpAny_bind (wpAny_mono call1 (fun v s' h' => wpAny_pure ⟨by rw [h'.1], h'.2⟩) fun _ _ h' => h')
    split
    · exact wpAny_bind (wpAny_of_eq (F.cmp_object.ne.bind _) (wpAny_pure (by exact fin)))
    · exact wpAny_tryCatch (wpAny_bind (wpAny_of_eq (F.cmp_object.ne.bind _) (wpAny_pure (by exact fin))))
  have one : wpAny (model prog w) A (tryCompare (.ref x) "__ne__" (.ref y)) (fun r s' => r = some (.bool false) ∧ Q (.bool false) s') E s := by
    unfold tryCompare
    refine wpAny_bind (wpAny_mono bound (fun r s' hr => ?_) fun _ _ e => e)
    obtain ⟨rfl, hq⟩ := hr
    exact wpAny_pure ⟨rfl, hq⟩
  unfold richCompare
  simp only [oneThing_ref, cmpInfo_NotEq]
  refine wpAny_holding (wpAny_bind (wpAny_cRoomFor (Nat.lt_of_succ_lt hu) ?_))
  refine wpAny_bind (I.type.here (wpAny_bind (I'.type.here ?_)))
  split
  · rename_i q
    simp at q
  · refine wpAny_bind (wpAny_pure ?_)
    simp only [Bool.false_eq_true, if_false]
    refine wpAny_bind (wpAny_mono one (fun r s' z => ?_) fun _ _ e => e)
    obtain ⟨rfl, hq⟩ := z
    exact wpAny_pure hq
end
section
variable {X : Cx}
/-- a != b, where the class's own __eq__ says that they are equal -/
def rNeOwn (C : Addr) (R : Addr → Addr → Hp → Prop) : R2 := fun x y H Q => DIns C R x y H ∧ ∀ H', Ext H H' → Q (.bl false) H'
theorem op_neOwn {n : Nat} {CX : CXT} {C f : Addr} {fd : FuncData} {ps : List Str} {R : Addr → Addr → Hp → Prop} {E : XK} (hr : Room (n + 1) X.A) (F : FnOk X.prog X.w X.K X.mg X.base CX n f fd ps (spEq R)) (hm : PySem.W.mroIn X.K C (.type "object") = some true)
    (hn : PySem.W.findIn X.K (.ref C) "__ne__" = some (some (.builtin "object.__ne__"))) (hs : PySem.W.findIn X.K (.ref C) "__eq__" = some (some (.ref f))) (hf : PySem.W.isFn X.K (.ref f) = true) (hb : Binds X.K fd ps []) (hx : Passes CX X E) :
    OpR X (compareOp .NotEq) (rNeOwn C R) := by
  intro pins s σ H x y u v Q I rx ry h
  obtain ⟨⟨a, b, dx, dy, fs, gs, rfl, rfl, ha, hb', hR⟩, q⟩ := h
  cases rx
  cases ry
  obtain ⟨mA, J, _⟩ := ins_get I.hok ha
  obtain ⟨mB, J', _⟩ := ins_get I.hok hb'
  obtain ⟨od, J, _⟩ := J.look
  obtain ⟨od', J', _⟩ := J'.look
  show wpAny (model X.prog X.w) X.A (richCompare .NotEq (.ref a) (.ref b)) (EP X pins σ Q) X.xe s
  refine ne_own I.kIn J J' (hu_of hr) hm hn hs hf ?_
  have hsp : spEq R [.ref a, .ref b] H (fun v H' => v = .bl true ∧ Ext H H') E := ⟨a, b, rfl, hR, fun H' e => ⟨rfl, e⟩⟩
  have e0 : Env0 X.prog X.w X.K X.mg X.base X.A.in1 X.stack s H := by
    have e := I.env0
    exact ⟨e.frames, e.mod, e.bs, e.bsz, e.funs, e.frf, e.hok, e.bare⟩
  have hl := F.len _ _ _ _ hsp
  have r2 : Vals [V.ref a, V.ref b] [Value.ref a, Value.ref b] := .cons rfl (.cons rfl .nil)
  refine wpAny_call (codeAny_mono (F.run X.A.in1 X.stack s H ⟨[.ref a, .ref b], []⟩ [.ref a, .ref b] [.ref a, .ref b] _ E hr.in1 e0 (by
    have := hb s [.ref a, .ref b] I.kIn (by simpa using hl)
    simpa using this) r2 hsp) fun r s' hq => ?_)
  cases r with
  | error e => exact hx pins σ H s e s' I hq
  | ok fl =>
    cases fl with
    | ret z =>
      obtain ⟨z, H', I', rz, ez, ex⟩ := I.after hq
      subst ez
      cases rz
      exact ⟨rfl, .bl false, H', I', rfl, q H' ex⟩
    | next => exact False.elim hq
    | brk => exact False.elim hq
    | cont => exact False.elim hq
end
end Fm
set_option Elab.async false
set_option linter.all false
set_option maxRecDepth 100000
set_option maxHeartbeats 2000000
namespace Fm
abbrev sManyInit : PySem.Stmt := L2.inClass (top 5) 0
end Fm
namespace Fm
open PySem PySem.W PySem.Calls PyProof.Rows PySem.HandSPX
abbrev ofTail : List Value := [.type "OverflowError", .type "ArithmeticError", .type "Exception", .type "BaseException", .type "object"]
/-- what the written part says of TooMany, at C, and of its __init__, at fI, whose cell __class__ stands at cc, its code at cda -/
structure ManyTxt (prog : Program) (K : Frag) (mg : Str → Option Value) (C fI cc cda : Addr) : Prop where
  gC : mg "TooMany" = some (.ref C)
  gS : mg "super" = none
  cls : ∃ nm q N bs sn sub ab col dd k0 k1 k2 k3 k5, K.lookup C = some (excClassObj nm q C N bs ofTail true sn sub ab col dd k0 k1 k2 k3 k5 "OverflowError.__new__")
  sa : findIn K (.ref C) "__setattr__" = some (some (.builtin "object.__setattr__"))
  ga : findIn K (.ref C) "__getattribute__" = some (some (.builtin "BaseException.__getattribute__"))
  gg : findIn K (.ref C) "__getattr__" = some none
  noN : findIn K (.ref C) "most" = some none
  iC : findIn K (.ref C) "__init__" = some (some (.ref fI))
  tC : typeIn K (.ref fI) = some (.type "function")
  kC : keepIn K (.ref C) = true
  exC : subIn K (.ref C) (.type "BaseException") = some true
  ofC : subIn K (.ref C) (.type "OverflowError") = some true
  selfC : mroIn K C (.ref C) = some true
  tyC : typeIn K (.ref C) = some (.type "type")
  hdC : hasDictIn K C = true
  te : exmOne K (.ref C) (.ref C) = some true
  opq : nsIn K cStatics "thirdparty.any" = some none
  fn : ∃ (oc : Value) (od : Option Addr) (kV doc pm : Value) (an : Option Addr) (ct : Value) (osl : Array (Option Value)),
    K.lookup fI = some ⟨oc, od, .func (ksFn "__init__" "TooMany.__init__" (L2.defArgs sManyInit) (L2.defBody sManyInit) (L2.defScope sManyInit) .none kV doc pm an (.ref cda) ct cc), osl⟩
  cdq : codeIn K (.ref cda) "TooMany.__init__" = true
  code : ∃ (cl : Value) (cd : Option Addr) (cs : Array (Option Value)) (vs : Array Value) (file : Str) (tf : Tok), K.lookup cda = some ⟨cl, cd, .fields vs, cs⟩ ∧ vs[2]? = some (.str file tf) ∧ ((prog.main.file : Str) == file) = true
  cell : ∃ (cl : Value) (cd : Option Addr) (cs : Array (Option Value)), K.lookup cc = some ⟨cl, cd, .cell (some (.ref C)), cs⟩
  top : (prog.main.scope.names.lookup ("super" : Str)).isSome = false
/-- the base __init__, bound to the object, called -/
theorem call_mw {prog : Program} {w : World} {A : Around} {E : Value → Shared → Prop} {h : Heap} {g : Array GenState} {d : Drawn} {t : Nat} {os : OsState} {nm q : Str} {C N : Addr} {bs : List Value} {hdct : Bool} {sn : List Str} {sub : List Value} {ab : Bool} {col : Option Bool} {dd : Option Addr} {k0 k1 k2 k3 k5 : Option Value}
    {u e t0 : Addr} {rest : List Value} {Q : Value → Shared → Prop} (hC : h.get? C = some (excClassObj nm q C N bs ofTail hdct sn sub ab col dd k0 k1 k2 k3 k5 "OverflowError.__new__")) (he : h.get? e = some (excO C t0)) (hu : h.get? u = some (kxs_mw "OverflowError.__init__" e)) (hrest : rest.length ≤ sizeLine)
    (hq : ∀ h' t1, (∀ b o, b ≠ e → h.get? b = some o → h'.get? b = some o) → h'.get? e = some (excO C t1) → Q .none ⟨h', g, d, t, os⟩) :
    wpAny (model prog w) A (call (.ref u) rest) Q E ⟨h, g, d, t, os⟩ := by
  refine wpAny_call (codeAny_of_tree ?_)
  show wpAny _ A.in1 (callAny (.ref u) ⟨rest, []⟩) _ _ _
  simp only [callAny]
  refine wpAny_bind (wpAny_load hu ?_)
  simp only [kxs_mw, show (Value.type "method-wrapper" == Value.type "method" || Value.type "method-wrapper" == Value.type "builtin_function_or_method" || Value.type "method-wrapper" == Value.type "method-wrapper") = true by decide, if_true]
  refine KFB.if_so (by decide) ?_
  refine wpAny_bind (check_bound_init F.excBase_OverflowError.toExcCallFacts hC he rfl (wpAny_bind (wpAny_pure (wpAny_pure ?_))))
  refine ⟨plainId_quiet F.excBase_OverflowError.init.plain _, codeAny_builtin F.excBase_OverflowError.initEntry ?_⟩
  exact exc_init_tree (cls := .ref C) (t0 := t0) (dv := none) (c2 := .none) (c3 := .none) (b4 := .bool false) he hrest fun h' k e1 _ => hq h' _ k e1
/-- self.name = v on such an exception without a dict -/
theorem osa_many {prog : Program} {w : World} {A : Around} {R : Result → Shared → Prop} {hp : Heap} {g : Array GenState} {d : Drawn} {t : Nat} {os : OsState} {K : Frag} {name : Str} {tk : Tok} {v : Value} {x C : Addr} {fv : Array Value} {cd : ClassData}
    (X : K.In hp) (hx : hp.get? x = some { cls := .ref C, data := .fields fv }) (hcd : clsIn K C = some cd) (hm : cd.mro = .ref C :: ofTail) (hh : cd.hasDict = true) (ha : findIn K (.ref C) name = some none)
    (hq : ∀ h' tk' dx, (∀ b o, b ≠ x → hp.get? b = some o → h'.get? b = some o) → hp.objs.size ≤ dx → dx ≠ x → h'.get? x = some { cls := .ref C, dict := some dx, data := .fields fv } →
      h'.Ns1 dx (fun y => if y = name then some v else none) → R (.ok (.ret .none)) ⟨h', g, d, tk', os⟩) :
    codeAny (model prog w) A (.call (.builtin "object.__setattr__") ⟨[.ref x, .str name tk, v], []⟩) R ⟨hp, g, d, t, os⟩ := by
  have I : InstAt hp x { cls := .ref C, data := .fields fv } C none := ⟨hx, rfl, rfl, trivial⟩
  have SF := F.store_object
  have hob : cd.mro.contains (.type "object") = true := by rw [hm, List.contains_cons, show ofTail.contains (.type "object") = true by decide +kernel, Bool.or_true]
  have ne : ¬ cd.mro.isEmpty = true := by rw [hm]; exact Bool.false_ne_true
  have hxs : x ≠ hp.objs.size := Nat.ne_of_lt (Heap.lt_size hx)
  have is : Looks (model prog w) hp (isInstance (.ref x) (.type "object")) true := I.type.andThen (looks_mroIn X (by unfold mroIn; rw [hcd, Option.bind_some, if_neg ne, hob]))
  refine codeAny_call_builtin SF.slot.plain SF.entry (@check_slot (model prog w) _ _ ⟨hp, g, d, t, os⟩ "object.__setattr__" "object" "__setattr__" (.ref x) [.str name tk, v] [] _ SF.kind SF.split is (SF.args (.ref x) (.str name tk) v) ?_)
  have hmr : Looks (model prog w) hp (mroOf (.ref C)) cd.mro := (looks_clsIn X hcd).andThen .now
  have tak : Looks (model prog w) hp (Builtin.ObjectAttr.storeTaker? none) none := .now
  have hcls : Looks (model prog w) hp (classData C) cd := looks_clsIn X hcd
  have pass : refuseLoop (.ref x) "__setattr__" cd.mro = pure () := by rw [hm, refuseLoop_ref]; exact F.store_OverflowError.passes _
  rw [osa_eq, refuse_eq]
  refine wpAny_bind (wpAny_bind (I.type.at (wpAny_bind (hmr.at ?_))))
  rw [pass]
  refine wpAny_pure (wpAny_bind (I.type.at (wpAny_bind ((looks_findIn X ha).at (wpAny_bind (tak.at ?_))))))
  show wpAny _ _ (Builtin.ObjectAttr.storeInOwnDict (.ref x) (.ref C) (.str name tk) name v false) _ _ _
  obtain ⟨nm, bs, mro, ns, qn, hd, sn, sb, ab, col, del⟩ := cd
  dsimp only at hh
  subst hh
  unfold Builtin.ObjectAttr.storeInOwnDict Builtin.ObjectAttr.ownDictForStores
  repeat (first | with_reducible refine store_in_new ?_ ?_ | with_reducible refine wpAny_loadPart_at hx ?_ | with_reducible refine hcls.at ?_ | wp_step)
  · exact ⟨_, #[], _, (Heap.get?_update_ne _ _ _ _ hxs.symm).trans (Heap.get?_push_at rfl rfl), rfl, fun e he => absurd he (by simp), fun _ => rfl⟩
  · intro h' tk' hn' hs
    have gx : (hp.push { cls := .type "dict", data := .dict #[] }).get? x = some { cls := .ref C, data := .fields fv } := Heap.get?_push_of_some _ hx
    refine hq h' tk' hp.objs.size (fun b o hb ho => ?_) (Nat.le_refl _) hxs.symm ((hs.2 x hxs).trans (Heap.get?_update_self _ gx rfl)) hn'
    exact (hs.2 b (Nat.ne_of_lt (Heap.lt_size ho))).trans ((Heap.get?_update_ne _ _ _ _ hb).trans (Heap.get?_push_of_some _ ho))
/-- what __init__ leaves of a fresh exception at x -/
structure ManyEnd (h h' : Heap) (x C dx t1 : Addr) (v : Value) : Prop where
  keep : ∀ b o, b ≠ x → h.get? b = some o → h'.get? b = some o
  obj : h'.get? x = some { cls := .ref C, dict := some dx, data := .fields #[.ref t1, .none, .none, .none, .bool false, .none] }
  dbig : h.objs.size ≤ dx
  dne : dx ≠ x
  ns : h'.Ns1 dx (fun y => if y = "most" then some v else none)
section
variable {prog : Program} {w : World} {A : Around} {R : Result → Shared → Prop} {s : Shared} {K : Frag} {mg mb : Str → Option Value} {C fI cc cda : Addr}
theorem many_init (T : ManyTxt prog K mg C fI cc cda) {x t0 : Addr} {v : Value} (X : K.In s.heap) (hlim : s.heap.NoLimit) (hx : s.heap.get? x = some (excO C t0)) (hnx : K.lookup x = none) (hroom : A.depth < recursionLimit)
    (hgl : s.heap.Ns mainGlobals mg) (hbl : s.heap.Ns builtinsNs mb) (hsb : mb "super" = some (.type "super"))
    (hq : ∀ h' tk dx t1, ManyEnd s.heap h' x C dx t1 v → R (.ok (.ret .none)) { s with heap := h', toks := tk }) :
    codeAny (model prog w) A (.call (.ref fI) ⟨[.ref x, v], []⟩) R s := by
  obtain ⟨oc, od, kV, doc, pm, an, ct, osl, ho⟩ := T.fn
  obtain ⟨nm, q, N, bs, sn, sub, ab, col, dd, k0, k1, k2, k3, k5, hC⟩ := T.cls
  obtain ⟨ccl, ccd, ccs, vs, file, tf, hcd, hvs, hfile⟩ := T.code
  obtain ⟨lcl, lcd, lcs, hcell⟩ := T.cell
  have hcl : clsIn K C = some { name := nm, bases := bs, mro := .ref C :: ofTail, ns := N, qualname := q, hasDict := true, slotNames := sn, subclasses := sub, abstract := ab, collection := col, hasDel := false } := by unfold clsIn; rw [hC]
  have hbind : BindsTo s (ksFn "__init__" "TooMany.__init__" (L2.defArgs sManyInit) (L2.defBody sManyInit) (L2.defScope sManyInit) .none kV doc pm an (.ref cda) ct cc) ⟨[.ref x, v], []⟩ [("self", .ref x), ("most", v)] := .of_eq rfl
  have nocell : ∀ y ∈ (L2.defScope sManyInit).names, y.2 ≠ .cell := by decide +kernel
  have l1 : (L2.defScope sManyInit).names.lookup ("self" : Str) = some .local := by decide +kernel
  have l2 : (L2.defScope sManyInit).names.lookup ("most" : Str) = some .local := by decide +kernel
  refine ks_codeAny_call_defAt hroom (X _ _ ho) rfl hlim (codeRec_of X T.cdq) rfl hbind nocell (fun y hy => ?_) (fun h1 hns kp => ?_) rfl rfl rfl
  · rcases List.mem_cons.mp hy with rfl | hy
    · exact l1
    · rw [List.mem_singleton.mp hy]
      exact l2
  have X1 : K.In h1 := X.keeps kp
  have hx1 := kp _ _ hx
  have hL : s.heap.objs.size ≠ x := Nat.ne_of_gt (Heap.lt_size hx)
  have v1 : (fun y => List.lookup y [(("self" : Str), Value.ref x), ("most", v)].reverse) ("self" : Str) = some (.ref x) := by first | rfl | kernel_rfl
  have v2 : (fun y => List.lookup y [(("self" : Str), Value.ref x), ("most", v)].reverse) ("most" : Str) = some v := by first | rfl | kernel_rfl
  generalize (fun y => List.lookup y [(("self" : Str), Value.ref x), ("most", v)].reverse) = mm at hns v1 v2
  have hCd : h1.get? C = some (excClassObj nm q C N bs ofTail true sn sub ab col dd k0 k1 k2 k3 k5 "OverflowError.__new__") := X1 _ _ hC
  -- super().__init__('more than allowed')
  refine ks_wpAt_execs_cons (ks_wpAt_Expr_any (ks_wpAt_MethodCall ?_) rfl rfl)
  refine ks_wpAt_super_base (f := fI) (cc := cda) rfl rfl rfl rfl (X1 _ _ ho) rfl rfl rfl (X1 _ _ hcd) rfl hvs hfile T.top ?_
  refine ks_loadName_global rfl rfl (loadGlobal_builtin (hgl.keeps kp) T.gS (hbl.keeps kp) hsb ⟨rfl, ?_⟩)
  refine wpAny_loadName_free rfl rfl rfl ⟨_, X1 _ _ hcell, rfl⟩ ?_
  refine wpAny_loadName_local rfl rfl hns v1 ?_
  refine ks_wpAny_isType_cls hCd rfl ⟨rfl, ?_⟩
  refine ks_wpAny_call_super hCd rfl hx1 rfl (fun c e => nomatch e) (looks_mroIn X1 T.selfC) (fun h2 e2 k2 => ?_)
  have X2 : K.In h2 := X1.keeps k2
  have hx2 := k2 _ _ hx1
  have I2 : InstAt h2 x (excO C t0) C none := ⟨hx2, rfl, rfl, trivial⟩
  have hxC : x ≠ C := fun z => by rw [z, hC] at hnx; cases hnx
  have hin : Looks (model prog w) h2 (isInstance (.ref x) (.type "OverflowError")) true := I2.type.andThen (looks_subIn X2 T.ofC)
  have hmro : Looks (model prog w) h2 (mroOf (.ref C)) (.ref C :: ofTail) := (looks_clsIn X2 hcl).andThen .now
  have along : alongIn K "__init__" ofTail = some (some (.builtin "OverflowError.__init__")) := by kernel_rfl
  refine kxs_getMethod kxs_OverflowError e2 (looks_opaque X2 T.opq) hmro (by simp [List.dropWhile_cons]) X2 along hin hxC rfl ?_
  have gu : (h2.push (kxs_mw "OverflowError.__init__" x)).get? h2.objs.size = some (kxs_mw "OverflowError.__init__" x) := Heap.get?_push_size _ rfl
  have k3 : ∀ b o, h2.get? b = some o → (h2.push (kxs_mw "OverflowError.__init__" x)).get? b = some o := fun b o e => Heap.get?_push_of_some _ e
  refine kxs_callWith (i := "OverflowError.__init__") (u := h2.objs.size) (x := x) rfl (evalArgs_plain (args_cons (wpAny_Constant_str (args_nil ⟨gu, ?_⟩)) rfl))
  refine call_mw (k3 _ _ (k2 _ _ hCd)) (k3 _ _ hx2) gu (by show 1 ≤ sizeLine; decide) fun h4 t1 k4 e4 => ?_
  have kk : ∀ b o, b ≠ x → h1.get? b = some o → h4.get? b = some o := fun b o hb e => k4 b o hb (k3 _ _ (k2 _ _ e))
  have X4 : K.In h4 := fun a o e => kk a o (fun z => by rw [z, hnx] at e; cases e) (X1 a o e)
  have hns4 : h4.Ns s.heap.objs.size mm := by
    obtain ⟨oL, es, ep, hL1, r⟩ := hns
    exact ⟨oL, es, ep, kk _ _ hL hL1, r⟩
  -- self.most = most
  refine ks_wpAt_execs_cons (ks_wpAt_Assign_Attr (wpAt_of_wpAny ?_) rfl)
  refine wpAny_Name (wpAny_loadName_local rfl rfl hns4 v2 ?_) (by decide)
  refine wpAny_Name (wpAny_loadName_local rfl rfl hns4 v1 ?_) (by decide)
  refine set_plain X4 (ox := excO C t1) (od := none) ⟨e4, rfl, rfl, trivial⟩ T.sa ?_
  refine osa_many X4 e4 hcl rfl rfl T.noN fun h5 tk5 dx k5' dbig dne e5 ns5 => ?_
  refine wpAt_of_wpAny (wpAny_execs_nil ?_)
  refine hq h5 tk5 dx t1 ⟨fun b o hb e => k5' b o hb (kk b o hb (kp b o e)), e5, ?_, dne, ns5⟩
  have z : s.heap.objs.size < h4.objs.size := hns4.lt
  exact Nat.le_of_lt (Nat.lt_of_lt_of_le z dbig)
/-- a TooMany is made: at e, its dict at d -/
structure ManyMade (h h' : Heap) (e C d : Addr) (v : Value) : Prop where
  keep : ∀ b o, h.get? b = some o → h'.get? b = some o
  new : h.objs.size ≤ e
  obj : ∃ oe vs, h'.get? e = some oe ∧ oe.cls = .ref C ∧ oe.dict = some d ∧ oe.data = .fields vs ∧ vs[1]? = some .none
  dbig : h.objs.size ≤ d
  dne : d ≠ e
  ns : h'.Ns1 d (fun y => if y = "most" then some v else none)
theorem many_made (T : ManyTxt prog K mg C fI cc cda) {v : Value} (X : K.In s.heap) (hlim : s.heap.NoLimit) (hroom : A.depth + 1 < recursionLimit) (hgl : s.heap.Ns mainGlobals mg) (hbl : s.heap.Ns builtinsNs mb) (hsb : mb "super" = some (.type "super"))
    (hq : ∀ h' tk e d, ManyMade s.heap h' e C d v → R (.ok (.ret (.ref e))) { s with heap := h', toks := tk }) :
    codeAny (model prog w) A (.call (.ref C) ⟨[v], []⟩) R s := by
  obtain ⟨nm, q, N, bs, sn, sub, ab, col, dd, k0, k1, k2, k3, k5, hC⟩ := T.cls
  obtain ⟨hp, g, dr, tk, os⟩ := s
  have kp : ∀ b o, hp.get? b = some o → ((hp.push (kdv_tup [v])).push (excO C hp.objs.size)).get? b = some o := fun b o e => Heap.get?_push_of_some _ (Heap.get?_push_of_some _ e)
  have hget : ((hp.push (kdv_tup [v])).push (excO C hp.objs.size)).get? (hp.objs.size + 1) = some (excO C hp.objs.size) := by heap_get
  have hnx : K.lookup (hp.objs.size + 1) = none := by
    cases e : K.lookup (hp.objs.size + 1) with
    | none => rfl
    | some o => exact absurd (Nat.lt_of_succ_lt (Heap.lt_size (X _ _ e))) (Nat.lt_irrefl _)
  have one : [v].length ≤ sizeLine := by rw [sizeLine_eq]; exact (by decide : 1 ≤ 16777216)
  refine call_own F.excBase_OverflowError (fun _ => rfl) (X _ _ hC) (looks_findIn X T.iC) (fun self => bind_fn X self T.tC) one ?_
  refine many_init (s := ⟨(hp.push (kdv_tup [v])).push (excO C hp.objs.size), g, dr, tk, os⟩) T (X.keeps kp) (hlim.keeps kp) hget hnx (show A.depth + 1 < recursionLimit from hroom) (hgl.keeps kp) (hbl.keeps kp) hsb fun h' tk' dx t1 M => ?_
  have old : ∀ b o, hp.get? b = some o → h'.get? b = some o := fun b o e => M.keep b o (Nat.ne_of_lt (Nat.lt_succ_of_lt (Heap.lt_size e))) (kp b o e)
  have z : hp.objs.size + 1 + 1 ≤ dx := by
    have q := M.dbig
    rw [Heap.size_push, Heap.size_push] at q
    exact q
  exact ⟨rfl, hq h' tk' (hp.objs.size + 1) dx ⟨old, Nat.le_succ _, ⟨_, _, M.obj, rfl, rfl, rfl, rfl⟩, Nat.le_trans (Nat.le_trans (Nat.le_succ _) (Nat.le_succ _)) z, M.dne, M.ns⟩⟩
end
end Fm
namespace Fm
open PySem PySem.Spec PyProof.Rows L2
theorem relO_many {v : V} {u : Value} (r : RelV v u) (f : Str) : RelO (List.lookup f [(("most" : Str), v)]) (if f = "most" then some u else none) := by
  by_cases h : f = "most"
  · subst h
    rw [if_pos rfl, show List.lookup ("most" : Str) [(("most" : Str), v)] = some v by simp [List.lookup]]
    exact r
  · rw [if_neg h, show List.lookup f [(("most" : Str), v)] = none by simp [List.lookup, (show (f == ("most" : Str)) = false by simpa using h)]]
    trivial
section
variable {X : Cx} {C fI cc cda : Addr}
/-- TooMany(e) -/
def tMkMany (C : Addr) (ta : TA) : L2.St → Hp → XK → Prop := fun σ H Q => ta σ H fun vs H1 => ∃ v, vs = [v] ∧ ∀ d, H1 d = none → Q (.ref C) (some d) (upd H1 d (.xd [(("most" : Str), v)]))
theorem pmk_many {a : Expr} {ta : TA} {p pos : Pos} {k : Nat} (T : ManyTxt X.prog X.K X.mg C fI cc cda) (hr : Room k X.A) (ha : PA X [a] ta) (hg : Gl X "TooMany" := by rfl)
    (he : starEach (a :: []) X.env = (false, eval a X.env) :: starEach [] X.env := by rfl) (hpl : (backTo pos (starEach [] X.env)).any (·.1) = false := by rfl) :
    PMk X (.Call (.Name "TooMany" p) [a] [] pos) (tMkMany C ta) := by
  intro pins s σ H Q I h
  refine wpAny_Call_Name_kw (ld_glob I hg T.gC ?_)
  refine PySem.W.callWith_K (h₀ := X.base) I.ok.mod.kin T.kC (thn (ha.run pos pins s σ H _ I h) fun us s1 hh => ?_) he hpl
  obtain ⟨vs, H1, I1, r1, v, ev, q1⟩ := hh
  subst ev
  refine ⟨I1.kIn, ?_⟩
  cases r1 with
  | cons rv rn =>
    rename_i v' us'
    cases rn
    show wpAny _ _ (call (.ref C) [v']) _ _ _
    obtain ⟨mb, hmb, hbb⟩ := I1.mod.blt
    have hlim := I1.nolimit
    have hgl := I1.mod.glob.keeps I1.bk
    have hbl := hmb.keeps I1.bk
    have hsb : mb "super" = some (.type "super") := (hbb _ (by decide)).trans (by decide +kernel)
    obtain ⟨hp, g, d, tk, os⟩ := s1
    refine wpAny_call (many_made T I1.kIn hlim (by have := hr.dp; omega) hgl hbl hsb fun h' tk' e d' M => ?_)
    show MkP X pins σ Q (.ref e) ⟨h', g, d, tk', os⟩
    obtain ⟨oe, fv, hoe, hc, hd, hdat, h1⟩ := M.obj
    obtain ⟨G', g1, g2⟩ := restrict h' fun b => decide (b ≠ e)
    have gk : ∀ b, b ≠ e → G'.get? b = h'.get? b := fun b hb => g1 b (decide_eq_true hb)
    have ge : G'.get? e = none := g2 e (by simp)
    have old : ∀ b o, hp.get? b = some o → G'.get? b = some o := fun b o q => (gk b (Nat.ne_of_lt (Nat.lt_of_lt_of_le (Heap.lt_size q) M.new))).trans (M.keep b o q)
    have ob : ObjOk X.prog X.w (upd H1 d' (.xd [(("most" : Str), v)])) G' d' (.xd [(("most" : Str), v)]) :=
      ⟨_, M.ns.at (fun o q => (gk d' M.dne).trans q), fun f => relO_many rv f⟩
    have J : Inv X pins σ (upd H1 d' (.xd [(("most" : Str), v)])) ⟨G', g, d, tk', os⟩ := I1.laid (t' := tk') old M.dbig ob
    refine ⟨e, oe, fv, ⟨G', g, d, tk', os⟩, _, .ref C, some d', rfl, J, fun b o q => ?_, ge, hoe, ⟨hc, hd⟩, hdat, h1, ?_, rfl, I1.bare, raises_own T.exC T.tyC, q1 d' (I1.hok.fresh M.dbig)⟩
    · by_cases hb : b = e
      · have q' : G'.get? b = some o := q
        rw [hb, ge] at q'; cases q'
      · exact (gk b hb).symm.trans q
    · rw [upd_ne (Ne.symm M.dne)]
      exact I1.hok.fresh M.new
/-- raise TooMany(e) -/
def tRaiseMany (C : Addr) (W : WX) (ta : TA) : TS := fun _ σ H => tMkMany C ta σ H fun cls d H' => W cls d σ H'
theorem ps_raiseMany {a : Expr} {ta : TA} {W : WX} {p pos pos2 : Pos} {k : Nat} (hc : X.calm = true) (T : ManyTxt X.prog X.K X.mg C fI cc cda) (hr : Room k X.A) (tk : Takes X W) (ha : PA X [a] ta) (hg : Gl X "TooMany" := by rfl)
    (he : starEach (a :: []) X.env = (false, eval a X.env) :: starEach [] X.env := by rfl) (hpl : (backTo pos (starEach [] X.env)).any (·.1) = false := by rfl) :
    PS X (.Raise (some (.Call (.Name "TooMany" p) [a] [] pos)) none pos2) (tRaiseMany C W ta) := ps_raise hc tk (pmk_many T hr ha hg he hpl)
/-- e.most in the suite that holds the exception (at a; its class cls, its dict d) -/
def tMost (C : Addr) (a : Addr) (cls : Value) (d : Option Addr) (te : TE) : TE := fun σ H Q => te σ H fun x H1 => x = .ref a ∧ cls = .ref C ∧ ∃ (dd : Addr) (v : V), d = some dd ∧ H1 dd = some (.xd [(("most" : Str), v)]) ∧ Q v H1
theorem pe_most {a : Addr} {oe : Obj} {cls : Value} {d : Option Addr} {pn : List (Addr × Obj)} {e : Expr} {te : TE} {pos : Pos} (T : ManyTxt X.prog X.K X.mg C fI cc cda) (hz : Zc cls d oe) (hf : ∃ vs, oe.data = .fields vs) (he : PE (X.suite a ((a, oe) :: pn)) e te)
    (hb : attributeBase e "most" X.env (eval e X.env) = eval e X.env := by rfl) :
    PE (X.suite a ((a, oe) :: pn)) (.Attribute e "most" pos) (tMost C a cls d te) := by
  refine ⟨fun pins s σ H Q I h => ?_⟩
  refine attr_of hb (thn (he.run pins s σ H _ I h) fun u s1 hh => ?_)
  obtain ⟨x, H1, I1, rx, ex, ec, dd, v, ed, ea, q⟩ := hh
  subst ex
  obtain rfl : u = Value.ref a := rx
  subst ec
  subst ed
  obtain ⟨ha, _⟩ := I1.pin (a, oe) (List.mem_append_left _ List.mem_cons_self)
  obtain ⟨vs, hd⟩ := hf
  obtain ⟨mA, hns, hr⟩ := (show ObjOk X.prog X.w H1 s1.heap dd (.xd [(("most" : Str), v)]) from I1.hok dd _ ea)
  obtain ⟨od, ho, hl⟩ := lookIn_ns hns
  have l : List.lookup ("most" : Str) [(("most" : Str), v)] = some v := by simp [List.lookup]
  obtain ⟨u, hu, ru⟩ := RelO.some_of (v := v) (o := mA "most") (by rw [← l]; exact hr "most")
  have J : PySem.W.InstAt s1.heap a oe C (some od) := ⟨ha, hz.1, by unfold PySem.W.notCls; rw [hd], by rw [hz.2]; exact ho⟩
  exact HandSPX.exc_get I1.kIn J T.ga T.gg T.exC (PySem.W.findObj_own T.hdC T.noN rfl (by rw [hl, hu])) (handed_of ru) ⟨v, H1, I1.tok _, ru, q⟩
end
end Fm
set_option Elab.async false
set_option linter.all false
set_option maxRecDepth 100000
namespace Fm
open PySem L2 PySem.Spec
section
variable {X : Cx}
/-- y = {k: v for ..}, y a local name: the target is stored within the comprehension's frame -/
theorem ps_setDc {i : Nat} {y : Str} {py : Pos} {kx vx tg iter : Expr} {ifs : List Expr} {scope : Scope} {own : List (Str × Nat)} {pos spos : Pos} {wi : TI} {g : TG} {tt : TT} {tk tv : TE} (hc : X.calm = true) (hN : X.N.Nodup) (hy : X.N[i]? = some y) (hyl : X.env.scope.names.lookup y = some .local)
    (hsw : swapsWith (.DictComp kx vx [⟨tg, iter, ifs, 0⟩] scope pos) (some (.Name y py)) spos.line X.env = pure true) (hi : PI X tg iter wi) (ok : BlkOk X.N X.env.scope scope own)
    (hg : ∀ (s : Shared) (H : Hp) (C : Addr) (cl : List (Str × Addr)) (fp : List Addr), PG (X.blk s H scope (compEnvC scope cl C X.env) fp) tg g) (ht : ∀ (s : Shared) (H : Hp) (C : Addr) (cl : List (Str × Addr)) (fp : List Addr), PTs (X.blk s H scope (compEnvC scope cl C X.env) fp) ifs tt)
    (hk : ∀ (s : Shared) (H : Hp) (C : Addr) (cl : List (Str × Addr)) (fp : List Addr), PE (X.blk s H scope (compEnvC scope cl C X.env) fp) kx tk)
    (he : ∀ (s : Shared) (H : Hp) (C : Addr) (cl : List (Str × Addr)) (fp : List Addr), PE (X.blk s H scope (compEnvC scope cl C X.env) fp) vx tv) (hs : ∀ x, foldedSetIterable iter X.env x = pure x := by intro _; rfl) :
    PS X (.Assign [.Name y py] (.DictComp kx vx [⟨tg, iter, ifs, 0⟩] scope pos) spos) (tAsg (tDc wi g tt tk tv (own.map (·.2))) (gName i)) := by
  refine ⟨fun pins s σ H D I h => ?_⟩
  rw [exec_Assign_Name_used _ _ _ _ hsw]
  refine wpAny_bind (wpAny_standAt (wpAny_bind ?_))
  show wpAny _ X.A (do let _ ← comprehension (.DictComp kx vx [⟨tg, iter, ifs, 0⟩] scope pos) scope X.env (firstIterPos [⟨tg, iter, ifs, 0⟩] pos) newDict false (eval iter X.env) (some (assign (.Name y py) X.env))) _ _ s
  have h : tDc wi g tt tk tv (own.map (·.2)) σ H (fun x H1 => gName i x σ H1 D.nx) := h
  refine wpAny_bind (thn (dc_core (Qf := fun _ s' => SP X pins D .next s') hc hN I hi ok hg ht hk he hs h fun L C s' m H' I' q hn f => ?_) fun _ s' hq => wpAny_pure (wpAny_pure hq))
  show wpAny _ _ (assign (.Name y py) X.env (.ref L)) _ _ _
  refine wpAny_assign_Name (store_ok2 (v := V.ref L) I' hN hy (.inl hyl) rfl (fun s2 I2 ⟨a, sb, ha⟩ => ?_) (.inr hyl))
  obtain ⟨f0, f1, f2, f3, f4, f5⟩ := f
  have ne : C ≠ a := ha.elim (fun z => by rw [z]; exact f1) fun z e => f4 y a z e.symm
  exact ⟨m, hn.sameBut sb ne, fun h3 sb3 => ⟨_, H', I2.turned (t' := s2.toks) (fun b o hb e => (sb3.2 b hb).trans e) f0 f1 f3 f4 f5, q⟩⟩
end
/-- a dict comprehension over any walk, by an invariant of the turn and the heap -/
theorem dc_it {J : It} {n : Nat} {G : Hp → Prop} {Y : Nat → Hp → V → Hp → Prop} (w : Walk J n G Y) {g : TG} {tt : TT} {tk tv : TE} {vs : List Nat} {σ : St} {H1 : Hp} {D : Addr} {Qd : Hp → Prop} (Pv : Nat → Hp → Prop) (h0 : Pv 0 (upd H1 D (.dK []))) (hG : ∀ i H, i ≤ n → Pv i H → G H)
    (hs : ∀ i x H H', i < n → Pv i H → Y i H x H' → g x (wipe σ vs) H' fun σ2 H2 => wipe σ2 vs = wipe σ vs ∧ tt σ2 H2 fun b H3 =>
      if b = true then tk σ2 H3 fun y H4 => tv σ2 H4 fun z H5 => ∃ kvs k, y = kV k ∧ H5 D = some (.dK kvs) ∧ kvs.length < sizeLine ∧ Pv (i + 1) (upd H5 D (.dK (putK kvs k z))) else Pv (i + 1) H3) (hd : ∀ H, Pv n H → Qd H) :
    ∃ W : Nat → Nat → Hp → Prop, (∃ m, W 0 m (upd H1 D (.dK []))) ∧ ∀ i m H, W i m H →
      (J.stop i H ∧ Qd H) ∨ (J.go i H ∧ ∃ Nx : Hp → Prop, (∀ H', Nx H' → ∃ m', m' < m ∧ W (i + 1) m' H') ∧ ∀ x H', J.yld i H x H' → g x (wipe σ vs) H' fun σ2 H2 => wipe σ2 vs = wipe σ vs ∧ tt σ2 H2 fun b H3 =>
        if b = true then tk σ2 H3 fun y H4 => tv σ2 H4 fun z H5 => ∃ kvs k, y = kV k ∧ H5 D = some (.dK kvs) ∧ kvs.length < sizeLine ∧ Nx (upd H5 D (.dK (putK kvs k z))) else Nx H3) := by
  refine ⟨fun i m H => m = n - i ∧ i ≤ n ∧ Pv i H, ⟨n, by simp, Nat.zero_le _, h0⟩, ?_⟩
  rintro i m H ⟨rfl, hi, p⟩
  have q := hG i H hi p
  by_cases hlt : i < n
  · refine .inr ⟨w.goes i H hlt q, Pv (i + 1), fun H' p' => ⟨n - (i + 1), by omega, rfl, hlt, p'⟩, fun x H' y => hs i x H H' hlt p (w.yields i H x H' hlt q y)⟩
  · have e : i = n := by omega
    subst e
    exact .inl ⟨w.stops H q, hd H p⟩
/-! ### nets in the heap -/
/-- a dict from names to what stands at ad -/
def kvsOf (ns : List Str) (ad : Str → Addr) : List (Key × V) := ns.map fun n => (Sum.inr n, V.ref (ad n))
theorem kvsOf_len (ns : List Str) (ad : Str → Addr) : (kvsOf ns ad).length = ns.length := List.length_map _
theorem kvsOf_get {ns : List Str} {ad : Str → Addr} {i : Nat} {k : Key} {v : V} (h : (kvsOf ns ad)[i]? = some (k, v)) : ∃ n, ns[i]? = some n ∧ k = Sum.inr n ∧ v = V.ref (ad n) := by
  unfold kvsOf at h
  rw [List.getElem?_map] at h
  cases e : ns[i]? with
  | none => rw [e] at h; cases h
  | some n =>
    rw [e] at h
    cases h
    exact ⟨n, rfl, rfl, rfl⟩
theorem kvsOf_in {ad : Str → Addr} {n : Str} : ∀ {ns : List Str}, n ∈ ns → valV (kvsOf ns ad) (Sum.inr n : Key) = some (V.ref (ad n))
  | [], h => (nomatch h)
  | m :: ns, h => by
    show valV ((Sum.inr m, V.ref (ad m)) :: kvsOf ns ad) (Sum.inr n : Key) = _
    by_cases e : m = n
    · subst e
      exact valV_pos rfl
    · rw [valV_neg (fun z => e (Sum.inr.inj z))]
      exact kvsOf_in ((List.mem_cons.mp h).resolve_left fun z => e z.symm)
theorem kvsOf_out {ad : Str → Addr} {n : Str} : ∀ {ns : List Str}, ¬ n ∈ ns → valV (kvsOf ns ad) (Sum.inr n : Key) = none
  | [], _ => rfl
  | m :: ns, h => by
    show valV ((Sum.inr m, V.ref (ad m)) :: kvsOf ns ad) (Sum.inr n : Key) = _
    rw [valV_neg (fun z => h (List.mem_cons.mpr (Or.inl (Sum.inr.inj z).symm)))]
    exact kvsOf_out fun z => h (List.mem_cons_of_mem _ z)
theorem kvsOf_has {ns : List Str} {ad : Str → Addr} {n : Str} : (valV (kvsOf ns ad) (Sum.inr n : Key)).isSome = decide (n ∈ ns) := by
  by_cases h : n ∈ ns
  · rw [kvsOf_in h, decide_eq_true h]; rfl
  · rw [kvsOf_out h, decide_eq_false h]; rfl
theorem kvsOf_snoc {ns : List Str} {ad : Str → Addr} {n : Str} {a : Addr} (h : ¬ n ∈ ns) : putK (kvsOf ns ad) (Sum.inr n : Key) (V.ref a) = kvsOf (ns ++ [n]) fun m => if m = n then a else ad m := by
  rw [putK_new _ (kvsOf_out h)]
  unfold kvsOf
  rw [List.map_append]
  congr 1
  · refine List.map_congr_left fun m hm => ?_
    have ne : ¬ m = n := fun z => h (by rw [← z]; exact hm)
    show (Sum.inr m, V.ref (ad m)) = (Sum.inr m, V.ref (if m = n then a else ad m))
    rw [if_neg ne]
  · simp
theorem kvsOf_congr {ns : List Str} {ad ad' : Str → Addr} (h : ∀ n, n ∈ ns → ad n = ad' n) : kvsOf ns ad = kvsOf ns ad' := List.map_congr_left fun n hn => by rw [h n hn]
def letters : Str := "abcdefghijklmnopqrstuvwxyz"
structure NameOk (n : Str) : Prop where
  lo : 1 ≤ n.length
  hi : n.length ≤ 8
  az : ∀ c, c ∈ n.cps.toList → c ∈ letters.cps.toList
/-- a net: unlike names, one to five; each one's needs unlike names of it -/
structure Good (ns : List Str) (rw : Str → List Str) : Prop where
  nd : ns.Nodup
  lo : 1 ≤ ns.length
  hi : ns.length ≤ 5
  nm : ∀ n, n ∈ ns → NameOk n
  rnd : ∀ n, n ∈ ns → (rw n).Nodup
  sub : ∀ n, n ∈ ns → ∀ m, m ∈ rw n → m ∈ ns
theorem Good.rlen {ns : List Str} {rw : Str → List Str} (g : Good ns rw) {n : Str} (hn : n ∈ ns) : (rw n).length ≤ 5 := Nat.le_trans ((g.rnd n hn).length_le_of_subset fun x hx => g.sub n hn x hx) g.hi
theorem Good.perm {ns ns' : List Str} {rw : Str → List Str} (g : Good ns rw) (p : ns'.Perm ns) : Good ns' rw :=
  ⟨p.nodup_iff.mpr g.nd, by rw [p.length_eq]; exact g.lo, by rw [p.length_eq]; exact g.hi, fun n hn => g.nm n (p.mem_iff.mp hn), fun n hn => g.rnd n (p.mem_iff.mp hn), fun n hn m hm => p.mem_iff.mpr (g.sub n (p.mem_iff.mp hn) m hm)⟩
theorem Good.cut {ns : List Str} {rw : Str → List Str} (g : Good ns rw) (cut : List Pr) : Good ns (rwCut rw cut) :=
  ⟨g.nd, g.lo, g.hi, g.nm, fun n hn => nodup_filter (g.rnd n hn), fun n hn m hm => g.sub n hn m (List.mem_filter.mp hm).1⟩
/-- the rows, tuples -/
def RowsT (K : PySem.W.Frag) (H : Hp) (ns : List Str) (rw : Str → List Str) (ad : Str → Addr) : Prop := ∀ n, n ∈ ns → SqT K H (ad n) ((rw n).map V.str)
theorem RowsT.same {K : PySem.W.Frag} {H H' : Hp} {ns : List Str} {rw : Str → List Str} {ad : Str → Addr} (r : RowsT K H ns rw ad) (s : Same H H') : RowsT K H' ns rw ad := fun n hn => sqT_same s (r n hn)
/-- a Net stands at x, its dict at d -/
structure NetAt (K : PySem.W.Frag) (C : Addr) (H : Hp) (x d : Addr) (ns : List Str) (rw : Str → List Str) (ad : Str → Addr) : Prop where
  ob : ∃ dx, H x = some (.ins C dx [("rows", .ref d)])
  dc : H d = some (.dK (kvsOf ns ad))
  ro : RowsT K H ns rw ad
theorem NetAt.same {K : PySem.W.Frag} {C : Addr} {H H' : Hp} {x d : Addr} {ns : List Str} {rw : Str → List Str} {ad : Str → Addr} (a : NetAt K C H x d ns rw ad) (s : Same H H') : NetAt K C H' x d ns rw ad :=
  ⟨let ⟨dx, e⟩ := a.ob; ⟨dx, s _ _ e⟩, s _ _ a.dc, a.ro.same s⟩
theorem rows_look {d : Addr} : ([(("rows" : Str), V.ref d)] : List (Str × V)).lookup ("rows" : Str) = some (.ref d) := by simp [List.lookup]
theorem rows_no {d : Addr} {m : Str} (h : ¬ m = "rows") : ([(("rows" : Str), V.ref d)] : List (Str × V)).lookup m = none := by
  have q : (m == ("rows" : Str)) = false := by simpa using h
  simp [List.lookup, q]
end Fm
set_option Elab.async false
set_option linter.all false
set_option maxRecDepth 100000
namespace Fm
open PySem L2 PySem.Spec
theorem shaped_nil : SeqAt.shaped (.list []) = true := by decide
theorem eqv_nil : PyData.eqv (.list []) (.list []) = true := by simp [PyData.eqv, PyData.eqvAll]
/-- the built-ins and the constants that the text finds -/
structure Bt (mg : Str → Option Value) : Prop where
  isi : mg "isinstance" = none
  str : mg "str" = none
  len : mg "len" = none
  set : mg "set" = none
  list : mg "list" = none
  tuple : mg "tuple" = none
  dict : mg "dict" = none
  sorted : mg "sorted" = none
  range : mg "range" = none
  sum : mg "sum" = none
  int : mg "int" = none
  max : mg "max" = none
  min : mg "min" = none
  enum : mg "enumerate" = none
  letters : ∃ t, mg "LETTERS" = some (.str letters t)
  mostL : ∃ t, mg "MOST_LETTERS" = some (.int 8 t)
  mostV : ∃ t, mg "MOST_VALUES" = some (.int 5 t)
  mostC : ∃ t, mg "MOST_CUTS" = some (.int 8 t)
theorem boot_isi : bootBuiltins "isinstance" = some (.builtin "isinstance") := by decide +kernel
theorem boot_tstr : bootBuiltins "str" = some (.type "str") := by decide +kernel
theorem boot_tlist : bootBuiltins "list" = some (.type "list") := by decide +kernel
theorem boot_ttuple : bootBuiltins "tuple" = some (.type "tuple") := by decide +kernel
theorem boot_tdict : bootBuiltins "dict" = some (.type "dict") := by decide +kernel
theorem boot_bsorted : bootBuiltins "sorted" = some (.builtin "sorted") := by decide +kernel
theorem boot_bsum : bootBuiltins "sum" = some (.builtin "sum") := by decide +kernel
theorem boot_bmax : bootBuiltins "max" = some (.builtin "max") := by decide +kernel
theorem boot_bmin : bootBuiltins "min" = some (.builtin "min") := by decide +kernel
section
variable {P : Program} {w : World} {K : PySem.W.Frag} {mg : Str → Option Value} {base : Heap}
/-! ### is_name -/
def spIsName : Sp := fun vs H Q _ => ∃ n : Str, vs = [.str n] ∧ NameOk n ∧ ∀ H', Same H H' → Q (.bl true) H'
theorem scIsName : FnScope ["value", "sign"] ["value"] (defScope sIsName) := ⟨rfl, rfl, rfl, by decide +kernel, rfl, by decide +kernel, by decide +kernel⟩
theorem ok_isName {f : Addr} {fd : FuncData} (F : Fun K "is_name" "is_name" sIsName f fd) (B : Bt mg) : FnOk P w K mg base CX0 1 f fd ["value"] spIsName := by
  obtain ⟨tl, hl⟩ := B.letters
  obtain ⟨tm, hm⟩ := B.mostL
  refine F.ok scIsName (fun vs H Q E h => ?_) (fun cdv A outer s H vs Q E hr h => ?_)
  · obtain ⟨n, rfl, _⟩ := h
    rfl
  · obtain ⟨n, rfl, ok, k⟩ := h
    have nd := scIsName.nd
    refine ⟨_, pss_cons (ps_if (PW.pt (pw_or (pt_not (pt_val (pe_callB call_isi (by rfl) B.isi boot_isi (pa_cons (pv 0) (pa_cons (pe_bltn (v := .ty "str") (by rfl) B.str boot_tstr rfl) pa_nil)))))
          (pw_or1 (pt_not (pt_chain op_le op_le pe_int (pe_callB call_len_str (by rfl) B.len PySem.boot_len (pa_cons (pv 0) pa_nil)) (pe_glob (v := .int 8) (by rfl) hm ⟨_, rfl⟩))))))
        (pss_one (ps_ret pe_bl)) pss_nil)
      (pss_one (ps_ret (pe_cmpR (op_eqD hr.units) (pe_lc (own := [("sign", 1)]) (g := gName 1) (by rfl) nd (pi_str (pv 0)) (blkOk_by (own := [("sign", 1)]) (N := ["value", "sign"]) (sc := defScope sIsName) (by decide +kernel))
          (fun _ _ _ _ _ => pg_name (i := 1) nd rfl (Or.inl rfl)) (fun _ _ _ _ _ => pts_one (pt_cmpR op_notIn_sign (pv 1) (pe_glob (v := .str letters) (by rfl) hl ⟨_, rfl⟩) rfl)) (fun _ _ _ _ _ => pv 1)) (pe_lst pa_nil) (nomark _)))), ?_⟩
    have hz : n.length ≤ sizeLine := Nat.le_trans ok.hi (by decide)
    refine ⟨_, rfl, _, _, _, _, true, rfl, .ty "str", .base (.str n), kit_ty (by decide +kernel), true, rfl, iteF ⟨_, rfl, _, rfl, hz, _, _, rfl, rfl, _, rfl, ?_⟩⟩
    have e1 : decide ((1 : Int) ≤ (n.length : Int)) = true := decide_eq_true (by have := ok.lo; omega)
    have e2 : decide ((n.length : Int) ≤ 8) = true := decide_eq_true (by have := ok.hi; omega)
    rw [if_pos e1]
    refine ⟨_, _, rfl, rfl, _, rfl, ?_⟩
    rw [e2]
    refine iteF ?_
    refine ⟨_, rfl, n, rfl, fun D hD => lc_data (K := K) walk_str hD (fun _ => none) ?_ (fun _ _ => trivial) (fun _ _ _ e => nomatch e) ?_ ?_⟩
    · show n.length ≤ 100000
      have := ok.hi
      omega
    · rintro i x H1 H2 kt kf hi _ _ ⟨rfl, c, hc, rfl⟩ _ kN
      refine ⟨rfl, _, rfl, c, letters, rfl, rfl, _, rfl, ?_⟩
      have : c ∈ letters.cps.toList := ok.az c (Array.mem_toList_iff.mpr (Array.mem_of_getElem? hc))
      rw [decide_eq_true this]
      exact iteF (kN _ rfl (Same.refl _))
    · intro H1 us s1 hu hp
      have e : (List.range n.cps.size).filterMap (fun _ => (none : Option PyData)) = [] := by simp
      rw [e] at hp
      cases hp
      refine ⟨Nat.zero_le _, fun p hp => ⟨.list [], .list [], .lst (.inl (.inl (by rw [upd_ne (ne_of_none hu hp)]; exact hu))) .nil, .lst (.inl (.inl upd_same)) .nil, shaped_nil, shaped_nil, ?_⟩⟩
      rw [eqv_nil]
      exact k _ (Same.new s1 hp)
end
end Fm
set_option Elab.async false
set_option linter.all false
set_option maxRecDepth 100000
namespace Fm
open PySem L2 PySem.Spec
section
variable {K : PySem.W.Frag} {H : Hp}
theorem inV_str (n : Str) : ∀ ns : List Str, inV (.str n) (ns.map V.str) = decide (n ∈ ns)
  | [] => by simp [inV]
  | m :: ns => by
    have ih := inV_str n ns
    unfold inV at ih ⊢
    rw [List.map_cons, List.any_cons, ih]
    show ((m == n) || decide (n ∈ ns)) = _
    by_cases e : m = n
    · subst e; simp
    · have e2 : ¬ n = m := fun z => e z.symm
      simp [e, e2]
theorem flat_strs : ∀ ns : List Str, (ns.map V.str).all flatV = true
  | [] => rfl
  | m :: ns => by rw [List.map_cons, List.all_cons, flat_strs ns]; rfl
theorem tyx_T {a : Addr} {xs : List V} (h : SqT K H a xs) : TyX K H (.ref a) (.type "tuple") := by
  rcases h with (h | ⟨o, h⟩) | ⟨o, its, n, h, hc, _⟩
  · exact .base (.tup h)
  · exact .fTuple h
  · exact .kTuple h hc
theorem tyx_L {a : Addr} {xs : List V} (h : SqL K H a xs) : TyX K H (.ref a) (.type "list") := by
  rcases h with (h | ⟨o, h⟩) | ⟨o, its, n, h, hc, _⟩
  · exact .base (.lst h)
  · exact .base (.frz h)
  · exact .kList h hc
theorem kit_lt : PySem.W.kitAny K (.type "tuple") [.type "list", .type "tuple"] = some true := kitAny_cons (kit_ty (b := "list") (r := false) (by decide +kernel)) (fun _ => kitAny_cons (kit_ty (b := "tuple") (r := true) (by decide +kernel)) (fun z => by cases z) fun _ => rfl) fun z => by cases z
theorem kit_ll : PySem.W.kitAny K (.type "list") [.type "list", .type "tuple"] = some true := kitAny_cons (kit_ty (b := "list") (r := true) (by decide +kernel)) (fun z => by cases z) fun _ => rfl
theorem at_str {ns : List Str} {i : Nat} {x : V} (h : (ns.map V.str)[i]? = some x) : ∃ n, ns[i]? = some n ∧ x = V.str n := by
  rw [List.getElem?_map] at h
  cases e : ns[i]? with
  | none => rw [e] at h; cases h
  | some n => rw [e] at h; cases h; exact ⟨n, rfl, rfl⟩
/-- a comprehension that keeps nothing, beside [] -/
theorem none_nil {n : Nat} {us : List V} (h : DpAll K H us ((List.range n).filterMap fun _ => (none : Option PyData))) : us = [] := by
  have e : (List.range n).filterMap (fun _ => (none : Option PyData)) = [] := by simp
  rw [e] at h
  cases h
  rfl
theorem dp_nil {a : Addr} (h : H a = some (.lst [])) : Dp K H (.ref a) (.list []) := .lst (.inl (.inl h)) .nil
end
section
variable {P : Program} {w : World} {K : PySem.W.Frag} {mg : Str → Option Value} {base : Heap}
/-! ### is_needs -/
def spIsNeeds (K : PySem.W.Frag) : Sp := fun vs H Q _ => ∃ (t l : Addr) (xs ns : List Str), vs = [.ref t, .ref l] ∧ (SqT K H t (xs.map V.str) ∨ SqL K H t (xs.map V.str)) ∧ SqL K H l (ns.map V.str) ∧ xs.Nodup ∧ xs.length ≤ 5 ∧ (∀ x, x ∈ xs → x ∈ ns) ∧ ∀ H', Same H H' → Q (.bl true) H'
theorem scIsNeeds : FnScope ["needs", "names", "name"] ["needs", "names"] (defScope sIsNeeds) := ⟨rfl, rfl, rfl, by decide +kernel, rfl, by decide +kernel, by decide +kernel⟩
theorem ok_isNeeds {f : Addr} {fd : FuncData} (F : Fun K "is_needs" "is_needs" sIsNeeds f fd) (B : Bt mg) : FnOk P w K mg base CX0 1 f fd ["needs", "names"] (spIsNeeds K) := by
  refine F.ok scIsNeeds (fun vs H Q E h => ?_) (fun cdv A outer s H vs Q E hr h => ?_)
  · obtain ⟨t, l, xs, ns, rfl, _⟩ := h
    rfl
  · obtain ⟨t, l, xs, ns, rfl, hq, hl, nd0, hlen, sub, k⟩ := h
    have nd := scIsNeeds.nd
    have hsz : xs.length ≤ 100000 := by omega
    rcases hq with hq | hq
    · refine ⟨_, pss_cons (ps_if (PW.pt (pw_or (pt_not (pt_val (pe_callB call_isiT (by rfl) B.isi boot_isi (pa_cons (pv 0) (pa_cons (pe_tup (pa_cons (pe_bltn (v := .ty "list") (by rfl) B.list boot_tlist rfl) (pa_cons (pe_bltn (v := .ty "tuple") (by rfl) B.tuple boot_ttuple rfl) pa_nil))) pa_nil)))))
          (pw_or1 (pt_cmpR (op_neD hr.units) (pe_lc (own := [("name", 2)]) (g := gName 2) (by rfl) nd (pi_tup (pv 0)) (blkOk_by (own := [("name", 2)]) (N := ["needs", "names", "name"]) (sc := defScope sIsNeeds) (by decide +kernel))
            (fun _ _ _ _ _ => pg_name (i := 2) nd rfl (Or.inl rfl)) (fun _ _ _ _ _ => pts_one (pt_not (pt_val (pe_callB (r := rIsi K) call_isi (by rfl) B.isi boot_isi (pa_cons (pv 2) (pa_cons (pe_bltn (v := .ty "str") (by rfl) B.str boot_tstr rfl) pa_nil)))))) (fun _ _ _ _ _ => pv 2)) (pe_lst pa_nil) (nomark _)))))
        (pss_one (ps_ret pe_bl)) pss_nil)
      (pss_one (ps_ret (pe_and (pe_cmpR op_eq (pe_lenSetU (by rfl) (by rfl) B.len (by rfl) B.set (pv 0)) (pe_callB call_len_seq (by rfl) B.len PySem.boot_len (pa_cons (pv 0) pa_nil)) (nomark _))
        (pe_one (pe_cmpR (op_eqD hr.units) (pe_lc (own := [("name", 2)]) (g := gName 2) (by rfl) nd (pi_tup (pv 0)) (blkOk_by (own := [("name", 2)]) (N := ["needs", "names", "name"]) (sc := defScope sIsNeeds) (by decide +kernel))
            (fun _ _ _ _ _ => pg_name (i := 2) nd rfl (Or.inl rfl)) (fun _ _ _ _ _ => pts_one (pt_cmpR (r := rIn K true) op_notIn_seq (pv 2) (pv 1) rfl)) (fun _ _ _ _ _ => pv 2)) (pe_lst pa_nil) (nomark _)))))), ?_⟩
      refine ⟨_, rfl, (by show 2 ≤ sizeLine; decide), fun T hT => ?_⟩
      have s0 : Same H (upd H T (.tup [.ty "list", .ty "tuple"])) := Same.new (Same.refl _) hT
      refine ⟨_, T, _, _, _, true, rfl, upd_same, .cons (.ty _) (.cons (.ty _) .nil), tyx_T (sqT_same s0 hq), kit_lt, true, rfl, iteF ?_⟩
      refine ⟨_, rfl, t, rfl, ⟨_, sqT_same s0 hq⟩, fun D hD => lc_data (K := K) (walk_tup (xs := xs.map V.str)) hD (fun _ => none) (by rw [List.length_map]; exact hsz) (fun H1 s1 => sqT_same s1 (sqT_same s0 hq)) (fun _ _ _ e => nomatch e) ?_ ?_⟩
      · rintro i x H1 H2 kt kf hi s1 _ ⟨rfl, hx⟩ _ kN
        obtain ⟨n, hn, rfl⟩ := at_str hx
        exact ⟨rfl, _, rfl, _, _, _, _, true, rfl, .ty "str", .base (.str n), kit_ty (by decide +kernel), true, rfl, iteF (kN _ rfl (Same.refl _))⟩
      intro H1 us s1 hu hp
      obtain rfl := none_nil hp
      refine ⟨Nat.zero_le _, fun p hp => ⟨.list [], .list [], dp_nil (by rw [upd_ne (ne_of_none hu hp)]; exact hu), dp_nil upd_same, shaped_nil, shaped_nil, _, rfl, ?_⟩⟩
      rw [eqv_nil]
      refine iteF ?_
      have s2 : Same H (upd H1 p (.lst [])) := Same.new (Same.trans s0 s1) hp
      refine ⟨_, rfl, t, xs, rfl, .inl (sqT_same s2 hq), by omega, nd0, _, rfl, t, _, rfl, .inr (sqT_same s2 hq), rfl, _, rfl, ?_⟩
      rw [List.length_map, decide_eq_true rfl]
      refine iteT ?_
      refine ⟨_, rfl, t, rfl, ⟨_, sqT_same s2 hq⟩, fun D2 hD2 => lc_data (K := K) (walk_tup (xs := xs.map V.str)) hD2 (fun _ => none) (by rw [List.length_map]; exact hsz) (fun H1 s1 => sqT_same s1 (sqT_same s2 hq)) (fun _ _ _ e => nomatch e) ?_ ?_⟩
      · rintro i x H3 H4 kt kf hi s3 _ ⟨rfl, hx⟩ _ kN
        obtain ⟨n, hn, rfl⟩ := at_str hx
        refine ⟨rfl, _, rfl, _, rfl, l, _, rfl, .inl (sqL_same s3 (sqL_same s2 hl)), rfl, flat_strs ns, _, rfl, ?_⟩
        have : n ∈ ns := sub n (List.mem_of_getElem? hn)
        rw [if_pos rfl, inV_str, decide_eq_true this]
        exact iteF (kN _ rfl (Same.refl _))
      intro H3 us s3 hu3 hp3
      obtain rfl := none_nil hp3
      refine ⟨Nat.zero_le _, fun p3 hp3 => ⟨.list [], .list [], dp_nil (by rw [upd_ne (ne_of_none hu3 hp3)]; exact hu3), dp_nil upd_same, shaped_nil, shaped_nil, ?_⟩⟩
      rw [eqv_nil]
      exact k _ (Same.new (Same.trans s2 s3) hp3)
    · refine ⟨_, pss_cons (ps_if (PW.pt (pw_or (pt_not (pt_val (pe_callB call_isiT (by rfl) B.isi boot_isi (pa_cons (pv 0) (pa_cons (pe_tup (pa_cons (pe_bltn (v := .ty "list") (by rfl) B.list boot_tlist rfl) (pa_cons (pe_bltn (v := .ty "tuple") (by rfl) B.tuple boot_ttuple rfl) pa_nil))) pa_nil)))))
          (pw_or1 (pt_cmpR (op_neD hr.units) (pe_lc (own := [("name", 2)]) (g := gName 2) (by rfl) nd (pi_list (pv 0)) (blkOk_by (own := [("name", 2)]) (N := ["needs", "names", "name"]) (sc := defScope sIsNeeds) (by decide +kernel))
            (fun _ _ _ _ _ => pg_name (i := 2) nd rfl (Or.inl rfl)) (fun _ _ _ _ _ => pts_one (pt_not (pt_val (pe_callB (r := rIsi K) call_isi (by rfl) B.isi boot_isi (pa_cons (pv 2) (pa_cons (pe_bltn (v := .ty "str") (by rfl) B.str boot_tstr rfl) pa_nil)))))) (fun _ _ _ _ _ => pv 2)) (pe_lst pa_nil) (nomark _)))))
        (pss_one (ps_ret pe_bl)) pss_nil)
      (pss_one (ps_ret (pe_and (pe_cmpR op_eq (pe_lenSetU (by rfl) (by rfl) B.len (by rfl) B.set (pv 0)) (pe_callB call_len_seq (by rfl) B.len PySem.boot_len (pa_cons (pv 0) pa_nil)) (nomark _))
        (pe_one (pe_cmpR (op_eqD hr.units) (pe_lc (own := [("name", 2)]) (g := gName 2) (by rfl) nd (pi_list (pv 0)) (blkOk_by (own := [("name", 2)]) (N := ["needs", "names", "name"]) (sc := defScope sIsNeeds) (by decide +kernel))
            (fun _ _ _ _ _ => pg_name (i := 2) nd rfl (Or.inl rfl)) (fun _ _ _ _ _ => pts_one (pt_cmpR (r := rIn K true) op_notIn_seq (pv 2) (pv 1) rfl)) (fun _ _ _ _ _ => pv 2)) (pe_lst pa_nil) (nomark _)))))), ?_⟩
      refine ⟨_, rfl, (by show 2 ≤ sizeLine; decide), fun T hT => ?_⟩
      have s0 : Same H (upd H T (.tup [.ty "list", .ty "tuple"])) := Same.new (Same.refl _) hT
      refine ⟨_, T, _, _, _, true, rfl, upd_same, .cons (.ty _) (.cons (.ty _) .nil), tyx_L (sqL_same s0 hq), kit_ll, true, rfl, iteF ?_⟩
      refine ⟨_, rfl, t, rfl, ⟨_, sqL_same s0 hq⟩, fun D hD => lc_data (K := K) (walk_list (xs := xs.map V.str)) hD (fun _ => none) (by rw [List.length_map]; exact hsz) (fun H1 s1 => sqL_same s1 (sqL_same s0 hq)) (fun _ _ _ e => nomatch e) ?_ ?_⟩
      · rintro i x H1 H2 kt kf hi s1 _ ⟨rfl, hx⟩ _ kN
        obtain ⟨n, hn, rfl⟩ := at_str hx
        exact ⟨rfl, _, rfl, _, _, _, _, true, rfl, .ty "str", .base (.str n), kit_ty (by decide +kernel), true, rfl, iteF (kN _ rfl (Same.refl _))⟩
      intro H1 us s1 hu hp
      obtain rfl := none_nil hp
      refine ⟨Nat.zero_le _, fun p hp => ⟨.list [], .list [], dp_nil (by rw [upd_ne (ne_of_none hu hp)]; exact hu), dp_nil upd_same, shaped_nil, shaped_nil, _, rfl, ?_⟩⟩
      rw [eqv_nil]
      refine iteF ?_
      have s2 : Same H (upd H1 p (.lst [])) := Same.new (Same.trans s0 s1) hp
      refine ⟨_, rfl, t, xs, rfl, .inr (sqL_same s2 hq), by omega, nd0, _, rfl, t, _, rfl, .inl (sqL_same s2 hq), rfl, _, rfl, ?_⟩
      rw [List.length_map, decide_eq_true rfl]
      refine iteT ?_
      refine ⟨_, rfl, t, rfl, ⟨_, sqL_same s2 hq⟩, fun D2 hD2 => lc_data (K := K) (walk_list (xs := xs.map V.str)) hD2 (fun _ => none) (by rw [List.length_map]; exact hsz) (fun H1 s1 => sqL_same s1 (sqL_same s2 hq)) (fun _ _ _ e => nomatch e) ?_ ?_⟩
      · rintro i x H3 H4 kt kf hi s3 _ ⟨rfl, hx⟩ _ kN
        obtain ⟨n, hn, rfl⟩ := at_str hx
        refine ⟨rfl, _, rfl, _, rfl, l, _, rfl, .inl (sqL_same s3 (sqL_same s2 hl)), rfl, flat_strs ns, _, rfl, ?_⟩
        have : n ∈ ns := sub n (List.mem_of_getElem? hn)
        rw [if_pos rfl, inV_str, decide_eq_true this]
        exact iteF (kN _ rfl (Same.refl _))
      intro H3 us s3 hu3 hp3
      obtain rfl := none_nil hp3
      refine ⟨Nat.zero_le _, fun p3 hp3 => ⟨.list [], .list [], dp_nil (by rw [upd_ne (ne_of_none hu3 hp3)]; exact hu3), dp_nil upd_same, shaped_nil, shaped_nil, ?_⟩⟩
      rw [eqv_nil]
      exact k _ (Same.new (Same.trans s2 s3) hp3)
end
end Fm
set_option Elab.async false
set_option linter.all false
set_option maxRecDepth 100000
namespace Fm
open PySem L2 PySem.Spec
/-! ### data: depth, being equal -/
def Lv (k : Nat) (d : PyData) : Prop := d.canLay0 = true ∧ d.depth ≤ k
theorem Lv.shaped {k : Nat} {d : PyData} (h : Lv k d) (hk : k ≤ 64) : SeqAt.shaped d = true := by
  show (d.canLay0 && decide (d.depth ≤ 64)) = true
  rw [h.1, decide_eq_true (Nat.le_trans h.2 hk)]
  rfl
theorem Lv.str {k : Nat} {x : Str} (h : PyData.strOk x = true) : Lv k (.str x) := ⟨by simp [PyData.canLay0, h], by simp [PyData.depth]⟩
theorem strOk_of {n : Str} (h : NameOk n) : PyData.strOk n = true := by
  have low : letters.cps.toList.all (fun c => decide (c < 0x110000)) = true := by decide +kernel
  show n.cps.all (fun c => decide (c < 0x110000)) = true
  rw [← Array.all_toList, List.all_eq_true]
  exact fun c hc => List.all_eq_true.mp low c (h.az c hc)
theorem Lv.int {k : Nat} (x : Int) : Lv k (.int x) := ⟨by simp [PyData.canLay0], by simp [PyData.depth]⟩
theorem lv_all {k : Nat} : ∀ {ds : List PyData}, (∀ d, d ∈ ds → Lv k d) → PyData.canLayAll0 ds = true ∧ PyData.depthAll ds ≤ k
  | [], _ => ⟨by simp [PyData.canLayAll0], by simp [PyData.depthAll]⟩
  | d :: ds, h => by
    have h1 := h d List.mem_cons_self
    have h2 := lv_all (ds := ds) fun e he => h e (List.mem_cons_of_mem _ he)
    refine ⟨by simp [PyData.canLayAll0, h1.1, h2.1], ?_⟩
    have a := h1.2
    have b := h2.2
    simp only [PyData.depthAll]
    omega
theorem Lv.list {k : Nat} {ds : List PyData} (h : ∀ d, d ∈ ds → Lv k d) : Lv (k + 1) (.list ds) := by
  have q := lv_all h
  refine ⟨by simp only [PyData.canLay0]; exact q.1, ?_⟩
  have := q.2
  simp only [PyData.depth]
  omega
theorem Lv.tuple {k : Nat} {ds : List PyData} (h : ∀ d, d ∈ ds → Lv k d) : Lv (k + 1) (.tuple ds) := by
  have q := lv_all h
  refine ⟨by simp only [PyData.canLay0]; exact q.1, ?_⟩
  have := q.2
  simp only [PyData.depth]
  omega
theorem lv_strs {k : Nat} {xs : List Str} (h : ∀ x, x ∈ xs → PyData.strOk x = true) : ∀ d, d ∈ xs.map PyData.str → Lv k d := fun d hd => by
  obtain ⟨x, hx, rfl⟩ := List.mem_map.mp hd
  exact .str (h x hx)
def prD (p : Pr) : PyData := .tuple [.str p.1, .str p.2]
def PrOk (p : Pr) : Prop := PyData.strOk p.1 = true ∧ PyData.strOk p.2 = true
theorem lv_pr {k : Nat} {p : Pr} (h : PrOk p) : Lv (k + 1) (prD p) := Lv.tuple fun d hd => by
  rcases List.mem_cons.mp hd with rfl | hd
  · exact .str h.1
  · rw [List.mem_singleton.mp hd]; exact .str h.2
theorem lv_prs {k : Nat} {ps : List Pr} (h : ∀ p, p ∈ ps → PrOk p) : ∀ d, d ∈ ps.map prD → Lv (k + 1) d := fun d hd => by
  obtain ⟨x, hx, rfl⟩ := List.mem_map.mp hd
  exact lv_pr (h x hx)
def cutD (c : List Pr) : PyData := .tuple (c.map prD)
theorem lv_cuts {k : Nat} {cs : List (List Pr)} (h : ∀ c, c ∈ cs → ∀ p, p ∈ c → PrOk p) : ∀ d, d ∈ cs.map cutD → Lv (k + 2) d := fun d hd => by
  obtain ⟨x, hx, rfl⟩ := List.mem_map.mp hd
  exact Lv.tuple (lv_prs (h x hx))
theorem Good.str {ns : List Str} {rw : Str → List Str} (g : Good ns rw) {n : Str} (h : n ∈ ns) : PyData.strOk n = true := strOk_of (g.nm n h)
theorem Good.pr {ns : List Str} {rw : Str → List Str} (g : Good ns rw) {p : Pr} (h : p ∈ pairsOf ns rw) : PrOk p := by
  obtain ⟨n, hn, h⟩ := List.mem_flatMap.mp h
  obtain ⟨m, hm, rfl⟩ := List.mem_map.mp h
  exact ⟨g.str hn, g.str (g.sub n hn m hm)⟩
def cutsD (cs : List (List Pr)) : PyData := .list (cs.map cutD)
def risD (r : List Nat) : PyData := .tuple (r.map fun i => PyData.int (i : Nat))
theorem lv_ris {k : Nat} (r : List Nat) : Lv (k + 1) (risD r) := Lv.tuple fun d hd => by
  obtain ⟨x, _, rfl⟩ := List.mem_map.mp hd
  exact .int _
theorem tless_pr (p : Pr) : tless (prD p) = true := by simp [prD, tless, tlessAll]
theorem tlessAll_prs (ps : List Pr) : tlessAll (ps.map prD) = true := tlessAll_iff.mpr fun d hd => by
  obtain ⟨x, _, rfl⟩ := List.mem_map.mp hd
  exact tless_pr x
theorem tless_cut (c : List Pr) : tless (cutD c) = true := by
  show tlessAll (c.map prD) = true
  exact tlessAll_prs c
theorem tless_ris (r : List Nat) : tless (risD r) = true := by
  show tlessAll (r.map fun i => PyData.int (i : Nat)) = true
  exact tlessAll_iff.mpr fun d hd => by
    obtain ⟨x, _, rfl⟩ := List.mem_map.mp hd
    rfl
mutual
theorem eqv_self : ∀ d : PyData, d.canLay0 = true → PyData.eqv d d = true
  | .none, _ => by simp [PyData.eqv]
  | .bool _, _ => by simp [PyData.eqv]
  | .int _, _ => by simp [PyData.eqv]
  | .str _, _ => by simp [PyData.eqv]
  | .list ds, h => by
    simp only [PyData.eqv]
    exact eqvAll_self ds (by simpa [PyData.canLay0] using h)
  | .tuple ds, h => by
    simp only [PyData.eqv]
    exact eqvAll_self ds (by simpa [PyData.canLay0] using h)
  | .dict _, h => by simp [PyData.canLay0] at h
theorem eqvAll_self : ∀ ds : List PyData, PyData.canLayAll0 ds = true → PyData.eqvAll ds ds = true
  | [], _ => by simp [PyData.eqvAll]
  | d :: ds, h => by
    have h' : d.canLay0 = true ∧ PyData.canLayAll0 ds = true := by simpa [PyData.canLayAll0] using h
    simp [PyData.eqvAll, eqv_self d h'.1, eqvAll_self ds h'.2]
end
theorem eqv_empty (ds : List PyData) : PyData.eqv (.list ds) (.list []) = ds.isEmpty := by
  cases ds <;> simp [PyData.eqv, PyData.eqvAll]
theorem eqv_emptyT (ds : List PyData) : PyData.eqv (.tuple ds) (.tuple []) = ds.isEmpty := by
  cases ds <;> simp [PyData.eqv, PyData.eqvAll]
theorem eqv_pr (p q : Pr) : PyData.eqv (prD p) (prD q) = decide (p = q) := by
  obtain ⟨a, b⟩ := p
  obtain ⟨c, d⟩ := q
  simp only [prD, PyData.eqv, PyData.eqvAll, Bool.and_true]
  by_cases h1 : a = c
  · by_cases h2 : b = d
    · simp [h1, h2]
    · simp [h1, h2]
  · simp [h1]
theorem any_pr (p : Pr) (ps : List Pr) : ((ps.map prD).any fun z => PyData.eqv z (prD p)) = decide (p ∈ ps) := by
  induction ps with
  | nil => simp
  | cons q ps ih =>
    rw [List.map_cons, List.any_cons, ih, eqv_pr]
    by_cases h : q = p
    · subst h; simp
    · have h' : ¬ p = q := fun z => h z.symm
      simp [h, h']
/-! ### a comprehension over a dict of names, locked -/
section
variable {K : PySem.W.Frag} {H : Hp}
theorem lcN {td te : TE} {tt : TT} {g : TG} {vs : List Nat} {σ : St} {Q : VK} {ns : List Str} {ad : Str → Addr} {d : Addr} (od : Obj) (hd : H d = some (.dK (kvsOf ns ad))) (hlen : ns.length ≤ 100000)
    (he : ∀ (R : VK), R (.ref d) (upd H d (.frz od (.dK (kvsOf ns ad)))) → td σ (upd H d (.frz od (.dK (kvsOf ns ad)))) R)
    (f : Str → Option PyData) (hf : ∀ n, n ∈ ns → ∀ e, f n = some e → tless e = true)
    (hs : ∀ (i : Nat) (n : Str) (H' : Hp) (kt : V → Hp → Prop) (kf : Hp → Prop), ns[i]? = some n → Same (upd H d (.frz od (.dK (kvsOf ns ad)))) H' → (∀ y H4 e, f n = some e → Same H' H4 → Dp K H4 y e → kt y H4) → (∀ H4, f n = none → Same H' H4 → kf H4) →
      g (.str n) (wipe σ vs) H' fun σ2 H2 => wipe σ2 vs = wipe σ vs ∧ tt σ2 H2 fun b H3 => if b = true then te σ2 H3 kt else kf H3)
    (hq : ∀ D H' us, H D = none → H' d = some (.frz od (.dK (kvsOf ns ad))) → Same H (upd H' d (.dK (kvsOf ns ad))) → (upd H' d (.dK (kvsOf ns ad))) D = some (.lst us) → DpAll K (upd H' d (.dK (kvsOf ns ad))) us (ns.filterMap f) → Q (.ref D) H') :
    tLc (iKeys td) g tt te vs σ (upd H d (.frz od (.dK (kvsOf ns ad)))) Q := by
  refine he _ ⟨d, od, rfl, .inl ⟨_, upd_same, fun D hD => ?_⟩⟩
  have ne : D ≠ d := fun z => by rw [z, upd_same] at hD; cases hD
  have hD0 : H D = none := by rw [upd_ne ne] at hD; exact hD
  refine lc_data (K := K) walk_keys hD (fun i => ns[i]?.bind f) (by rw [kvsOf_len]; exact hlen) (fun H1 s => s _ _ upd_same) (fun i hi e he => ?_) ?_ ?_
  · cases hn : ns[i]? with
    | none => rw [hn] at he; cases he
    | some n => rw [hn] at he; exact hf n (List.mem_of_getElem? hn) e he
  · rintro i x H1 H2 kt kf hi s1 _ ⟨rfl, k, v, hk, rfl⟩ kt' kf'
    obtain ⟨n, hn, rfl, rfl⟩ := kvsOf_get hk
    exact hs i n H2 kt kf hn s1 (fun y H4 e h => kt' y H4 e (by rw [hn]; exact h)) fun H4 h => kf' H4 (by rw [hn]; exact h)
  · intro H1 us s1 hu hp
    rw [kvsOf_len, range_map] at hp
    have h1 := s1 _ _ upd_same
    exact hq D _ us hD0 h1 (same_unlock hd s1) (by rw [upd_ne ne]; exact hu) (dpAll_unlock h1 hp)
end
structure NetK (K : PySem.W.Frag) (C : Addr) : Prop where
  cls : Cls K C
  nr : NoAttr K C "rows"
  ha : PySem.W.findIn K (.ref C) "__class__" = some (some (.builtin "object.__class__"))
  hn : PySem.W.specialIn K (.builtin "object.__class__") "__get__" = some (some (.builtin "getset_descriptor.__get__"))
  tk : PySem.W.takesIn K (.builtin "object.__class__") = some true
  mo : PySem.W.mroIn K C (.type "object") = some true
  kit : PySem.W.kitOne K (.ref C) (.ref C) = some true
theorem dget_row {H : Hp} {d : Addr} {ns : List Str} {ad : Str → Addr} {n : Str} (hd : Rd H d (.dK (kvsOf ns ad))) (hn : n ∈ ns) : DGet H d (.str n) (some (.ref (ad n))) :=
  .inl ⟨kvsOf ns ad, Sum.inr n, hd, rfl, (kvsOf_in hn).symm⟩
/-- a filter in a comprehension: those of xs for which p holds -/
theorem fm_filter {α β : Type} (p : α → Bool) (f : α → β) (xs : List α) : (xs.filterMap fun x => if p x = true then some (f x) else none) = (xs.filter p).map f := by
  induction xs with
  | nil => rfl
  | cons x xs ih =>
    rw [List.filterMap_cons, List.filter_cons]
    cases h : p x with
    | true => simp [ih]
    | false => simp [ih]
section
variable {P : Program} {w : World} {K : PySem.W.Frag} {mg : Str → Option Value} {base : Heap} {C : Addr}
/-- a Net at x, its dict may be locked -/
structure NetR (K : PySem.W.Frag) (C : Addr) (H : Hp) (x d : Addr) (ns : List Str) (rw : Str → List Str) (ad : Str → Addr) : Prop where
  ob : ∃ dx, H x = some (.ins C dx [("rows", .ref d)])
  dc : Rd H d (.dK (kvsOf ns ad))
  ro : RowsT K H ns rw ad
theorem NetR.same {K : PySem.W.Frag} {C : Addr} {H H' : Hp} {x d : Addr} {ns : List Str} {rw : Str → List Str} {ad : Str → Addr} (a : NetR K C H x d ns rw ad) (s : Same H H') : NetR K C H' x d ns rw ad :=
  ⟨let ⟨dx, e⟩ := a.ob; ⟨dx, s _ _ e⟩, rd_same s a.dc, a.ro.same s⟩
theorem NetAt.lock {K : PySem.W.Frag} {C : Addr} {H : Hp} {x d : Addr} {ns : List Str} {rw : Str → List Str} {ad : Str → Addr} (a : NetAt K C H x d ns rw ad) (od : Obj) : NetR K C (upd H d (.frz od (.dK (kvsOf ns ad)))) x d ns rw ad := by
  obtain ⟨dx, hx⟩ := a.ob
  refine ⟨⟨dx, ?_⟩, .inr ⟨od, upd_same⟩, fun n hn => sqT_lock a.dc dk_nf (a.ro n hn)⟩
  rw [upd_ne (ne_of hx a.dc (by intro z; cases z))]
  exact hx
/-! ### lacks -/
def spLacks (K : PySem.W.Frag) (C : Addr) : Sp := fun vs H Q _ => ∃ (x d m : Addr) (n : Str) (ns ms : List Str) (rw : Str → List Str) (ad : Str → Addr), vs = [.ref x, .str n, .ref m] ∧ NetR K C H x d ns rw ad ∧ n ∈ ns ∧ Good ns rw ∧ SqL K H m (ms.map V.str) ∧
  ∀ H', Same H H' → Q (.bl (!((rw n).filter fun y => !decide (y ∈ ms)).isEmpty)) H'
theorem scLacks : FnScope ["self", "name", "made", "need"] ["self", "name", "made"] (defScope sLacks) := ⟨rfl, rfl, rfl, by decide +kernel, rfl, by decide +kernel, by decide +kernel⟩
theorem ok_lacks {f : Addr} {fd : FuncData} (F : Fun K "lacks" "Net.lacks" sLacks f fd) (T : NetK K C) : FnOk P w K mg base CX0 1 f fd ["self", "name", "made"] (spLacks K C) := by
  refine F.ok scLacks (fun vs H Q E h => ?_) (fun cdv A outer s H vs Q E hr h => ?_)
  · obtain ⟨x, d, m, n, ns, ms, rw_, ad, rfl, _⟩ := h
    rfl
  · obtain ⟨x, d, m, n, ns, ms, rw_, ad, rfl, N, hn, G, hm, k⟩ := h
    have nd := scLacks.nd
    have hlen := G.rlen hn
    refine ⟨_, pss_one (ps_ret (pe_cmpR (op_neD hr.units) (pe_lc (own := [("need", 3)]) (g := gName 3) (by rfl) nd (pi_tup (pe_dget (hu_of hr) (pe_fld (pv 0) rfl) (pv 1) (fun _ _ => rfl))) (blkOk_by (own := [("need", 3)]) (N := ["self", "name", "made", "need"]) (sc := defScope sLacks) (by decide +kernel))
        (fun _ _ _ _ _ => pg_name (i := 3) nd rfl (Or.inl rfl)) (fun _ _ _ _ _ => pts_one (pt_cmpR (r := rIn K true) op_notIn_seq (pv 3) (pv 2) rfl)) (fun _ _ _ _ _ => pv 3)) (pe_lst pa_nil) (nomark _))), ?_⟩
    obtain ⟨dx, hx⟩ := N.ob
    refine ⟨_, rfl, x, _, _, _, _, rfl, hx, T.cls, T.nr, rows_look, _, rfl, d, _, rfl, dget_row N.dc hn, ?_⟩
    refine ⟨ad n, rfl, ⟨_, N.ro n hn⟩, fun D hD => lc_data (K := K) (walk_tup (xs := (rw_ n).map V.str)) hD (fun i => (rw_ n)[i]?.bind fun y => if (!decide (y ∈ ms)) = true then some (PyData.str y) else none) (by rw [List.length_map]; omega) (fun H1 s1 => sqT_same s1 (N.ro n hn)) (fun i _ e he => ?_) ?_ ?_⟩
    · cases hy : (rw_ n)[i]? with
      | none => rw [hy] at he; cases he
      | some y =>
        rw [hy] at he
        have he : (if (!decide (y ∈ ms)) = true then some (PyData.str y) else none) = some e := he
        split at he
        · cases he; rfl
        · cases he
    · rintro i y H1 H2 kt kf hi s1 _ ⟨rfl, hy⟩ kT kN
      obtain ⟨y, hy', rfl⟩ := at_str hy
      refine ⟨rfl, _, rfl, _, rfl, m, _, rfl, .inl (sqL_same s1 hm), rfl, flat_strs ms, _, rfl, ?_⟩
      rw [if_pos rfl, inV_str]
      cases q : decide (y ∈ ms) with
      | true =>
        exact iteF (kN _ (by rw [hy']; show (if (!decide (y ∈ ms)) = true then some (PyData.str y) else none) = none; rw [q]; rfl) (Same.refl _))
      | false =>
        exact iteT ⟨_, rfl, kT _ _ _ (by rw [hy']; show (if (!decide (y ∈ ms)) = true then some (PyData.str y) else none) = _; rw [q]; rfl) (Same.refl _) (Dp.str y)⟩
    · intro H1 us s1 hu hp
      rw [List.length_map, range_map, fm_filter] at hp
      refine ⟨Nat.zero_le _, fun p hp' => ⟨_, .list [], .lst (.inl (.inl (by rw [upd_ne (ne_of_none hu hp')]; exact hu))) (dpAll_same (Same.new (Same.refl _) hp') hp), dp_nil upd_same, (Lv.list (k := 0) (lv_strs fun y hy => G.str (G.sub n hn y (List.mem_filter.mp hy).1))).shaped (by decide), shaped_nil, ?_⟩⟩
      rw [eqv_empty]
      have e : (((rw_ n).filter fun y => !decide (y ∈ ms)).map PyData.str).isEmpty = ((rw_ n).filter fun y => !decide (y ∈ ms)).isEmpty := by
        cases (rw_ n).filter fun y => !decide (y ∈ ms) <;> rfl
      rw [e]
      exact k _ (Same.new s1 hp')
/-! ### look_at_name -/
def spLook (K : PySem.W.Frag) (C : Addr) : Sp := fun vs H Q _ => ∃ (x d : Addr) (n : Str) (ns : List Str) (rw : Str → List Str) (ad : Str → Addr), vs = [.ref x, .str n] ∧ NetAt K C H x d ns rw ad ∧ n ∈ ns ∧ Q .non H
theorem scLook : FnScope ["self", "name"] ["self", "name"] (defScope sLook) := ⟨rfl, rfl, rfl, by decide +kernel, rfl, by decide +kernel, by decide +kernel⟩
theorem ok_look {f : Addr} {fd : FuncData} (F : Fun K "look_at_name" "Net.look_at_name" sLook f fd) (T : NetK K C) (B : Bt mg) : FnOk P w K mg base CX0 1 f fd ["self", "name"] (spLook K C) := by
  refine F.ok scLook (fun vs H Q E h => ?_) (fun cdv A outer s H vs Q E hr h => ?_)
  · obtain ⟨x, d, n, ns, rw_, ad, rfl, _⟩ := h
    rfl
  · obtain ⟨x, d, n, ns, rw_, ad, rfl, N, hn, k⟩ := h
    have nd := scLook.nd
    refine ⟨_, pss_one (ps_if (PW.pt (pw_or (pt_not (pt_val (pe_callB call_isi (by rfl) B.isi boot_isi (pa_cons (pv 1) (pa_cons (pe_bltn (v := .ty "str") (by rfl) B.str boot_tstr rfl) pa_nil)))))
          (pw_or1 (pt_cmp (pc_dnotin (hu_of hr) (pv 1) (pe_fld (pv 0) rfl)))))) pss_never pss_nil), ?_⟩
    obtain ⟨dx, hx⟩ := N.ob
    refine ⟨_, rfl, _, _, _, _, true, rfl, .ty "str", .base (.str n), kit_ty (by decide +kernel), true, rfl, iteF ?_⟩
    refine ⟨_, rfl, _, rfl, x, _, _, _, _, rfl, hx, T.cls, T.nr, rows_look, d, _, rfl, dget_row (.inl N.dc) hn, _, rfl, iteF k⟩
/-! ### __eq__ -/
theorem scEq : FnScope ["self", "other"] ["self", "other"] (defScope sEq) := ⟨rfl, rfl, rfl, by decide +kernel, rfl, by decide +kernel, by decide +kernel⟩
/-- two nets of the same row tuples -/
def SameNet (K : PySem.W.Frag) (C : Addr) (a b : Addr) (H : Hp) : Prop := ∃ d d' ns rw ad, NetAt K C H a d ns rw ad ∧ NetAt K C H b d' ns rw ad
theorem ok_eq {f : Addr} {fd : FuncData} (F : Fun K "__eq__" "Net.__eq__" sEq f fd) (T : NetK K C) (B : Bt mg) (gN : mg "Net" = some (.ref C)) : FnOk P w K mg base CX0 1 f fd ["self", "other"] (spEq (SameNet K C)) := by
  refine F.ok scEq (fun vs H Q E h => ?_) (fun cdv A outer s H vs Q E hr h => ?_)
  · obtain ⟨a, b, rfl, _⟩ := h
    rfl
  · obtain ⟨a, b, rfl, ⟨d, d', ns, rw_, ad, N, N'⟩, k⟩ := h
    have nd := scEq.nd
    obtain ⟨dx, hx⟩ := N.ob
    obtain ⟨dy, hy⟩ := N'.ob
    refine ⟨_, pss_one (ps_ret (pe_and (pe_callB call_isi (by rfl) B.isi boot_isi (pa_cons (pv 1) (pa_cons (pe_glob (v := .ref C) (by rfl) gN rfl) pa_nil)))
        (pe_one (pe_cmpR (op_eqV hr.units) (pe_fld (pv 0) rfl) (pe_fld (pv 1) rfl) (nomark _))))), ?_⟩
    refine ⟨_, rfl, _, _, _, _, true, rfl, .own C, .base (.ins hy T.cls T.ha T.hn T.tk T.mo), T.kit, ?_⟩
    refine ⟨true, rfl, iteT ⟨_, rfl, a, _, _, _, _, rfl, hx, T.cls, T.nr, rows_look, _, rfl, b, _, _, _, _, rfl, hy, T.cls, T.nr, rows_look, ?_⟩⟩
    refine ⟨1, by decide, .inr ⟨d, d', _, _, rfl, rfl, N.dc, N'.dc, rfl, fun p hp => ?_⟩, k _ (Ext.rfl')⟩
    obtain ⟨n, hn, rfl⟩ := List.mem_map.mp hp
    exact ⟨_, kvsOf_in hn, .inr (.inl ⟨ad n, rfl, rfl⟩)⟩
end
end Fm
set_option Elab.async false
set_option linter.all false
set_option maxRecDepth 100000
namespace Fm
open PySem L2 PySem.Spec
theorem sqT_updI {K : PySem.W.Frag} {H : Hp} {a x C dx : Addr} {fs : List (Str × V)} {xs : List V} {o : HO} (hx : H x = some (.ins C dx fs)) (h : SqT K H a xs) : SqT K (upd H x o) a xs := by
  rcases h with (h | ⟨b, h⟩) | h
  · exact .inl (.inl (by rw [upd_ne (ne_of h hx (by intro z; cases z))]; exact h))
  · exact .inl (.inr ⟨b, by rw [upd_ne (ne_of h hx (by intro z; cases z))]; exact h⟩)
  · exact .inr h
theorem sqT_updD {K : PySem.W.Frag} {H : Hp} {a D : Addr} {kvs : List (Key × V)} {xs : List V} {o : HO} (hx : H D = some (.dK kvs)) (h : SqT K H a xs) : SqT K (upd H D o) a xs := by
  rcases h with (h | ⟨b, h⟩) | h
  · exact .inl (.inl (by rw [upd_ne (ne_of h hx (by intro z; cases z))]; exact h))
  · exact .inl (.inr ⟨b, by rw [upd_ne (ne_of h hx (by intro z; cases z))]; exact h⟩)
  · exact .inr h
section
variable {X : Cx}
theorem pe_fldK (K : PySem.W.Frag) {e : Expr} {ta : TE} {f : Str} {pos : Pos} (hK : X.K = K) (he : PE X e ta) (hb : attributeBase e f X.env (eval e X.env) = eval e X.env) : PE X (.Attribute e f pos) (tFld K ta f) := by
  subst hK; exact pe_fld he hb
theorem pi_tupK (K : PySem.W.Frag) {tg l : Expr} {tl : TE} (hK : X.K = K) (hl : PE X l tl) : PI X tg l (iTup K tl) := by
  subst hK; exact pi_tup hl
theorem pi_listK (K : PySem.W.Frag) {tg l : Expr} {tl : TE} (hK : X.K = K) (hl : PE X l tl) : PI X tg l (iList K tl) := by
  subst hK; exact pi_list hl
theorem pe_tupleOfK (K : PySem.W.Frag) {a : Expr} {ta : TE} {p pos : Pos} (hK : X.K = K) (hg : Gl X "tuple") (hm : X.mg "tuple" = none) (ha : PE X a ta) (na : starEach [a] X.env = (false, eval a X.env) :: starEach [] X.env := by rfl) :
    PE X (.Call (.Name "tuple" p) [a] [] pos) (tThen ta (kTup K)) := by
  subst hK; exact pe_tupleOf hg hm ha na
end
/-- rows, all tuples or all lists -/
def RowsB (K : PySem.W.Frag) (H : Hp) (ns : List Str) (rw : Str → List Str) (ad : Str → Addr) (b : Bool) : Prop := ∀ n, n ∈ ns → if b = true then SqT K H (ad n) ((rw n).map V.str) else SqL K H (ad n) ((rw n).map V.str)
theorem RowsB.same {K : PySem.W.Frag} {H H' : Hp} {ns : List Str} {rw : Str → List Str} {ad : Str → Addr} {b : Bool} (r : RowsB K H ns rw ad b) (s : Same H H') : RowsB K H' ns rw ad b := fun n hn => by
  have := r n hn
  cases b with
  | true => exact sqT_same s this
  | false => exact sqL_same s this
theorem RowsB.or {K : PySem.W.Frag} {H : Hp} {ns : List Str} {rw : Str → List Str} {ad : Str → Addr} {b : Bool} (r : RowsB K H ns rw ad b) {n : Str} (hn : n ∈ ns) : SqT K H (ad n) ((rw n).map V.str) ∨ SqL K H (ad n) ((rw n).map V.str) := by
  have := r n hn
  cases b with
  | true => exact .inl this
  | false => exact .inr this
/-- {n: tuple(..) for n in names}: a dict of row tuples -/
theorem dcRows {J : It} {G : Hp → Prop} {Y : Nat → Hp → V → Hp → Prop} {g : TG} {tt : TT} {tk tv : TE} {vs : List Nat} {σ : St} {H1 : Hp} {D : Addr} {Qd : Hp → Prop} {names : List Str} (hD : H1 D = none) (w : Walk J names.length G Y) (hnd : names.Nodup) (hlen : names.length ≤ 1000)
    (hG : ∀ H, Same H1 H → G H) (R : Hp → Str → Addr → Prop) (hR1 : ∀ H H' n a, Same H H' → R H n a → R H' n a) (hR2 : ∀ (H : Hp) kvs o n a, H D = some (.dK kvs) → R H n a → R (upd H D o) n a)
    (hs : ∀ (i : Nat) (n : Str) (x : V) (H H' : Hp) (kt : V → V → Hp → Prop) (kf : Hp → Prop), names[i]? = some n → Same H1 H → Y i H x H' → (∀ a H4, Same H H4 → R H4 n a → kt (.str n) (.ref a) H4) →
      g x (wipe σ vs) H' fun σ2 H2 => wipe σ2 vs = wipe σ vs ∧ tt σ2 H2 fun b H3 => if b = true then tk σ2 H3 fun y H4 => tv σ2 H4 fun z H5 => kt y z H5 else kf H3)
    (hd : ∀ H ad, Same H1 H → H D = some (.dK (kvsOf names ad)) → (∀ n, n ∈ names → R H n (ad n)) → Qd H) :
    ∃ W : Nat → Nat → Hp → Prop, (∃ m, W 0 m (upd H1 D (.dK []))) ∧ ∀ i m H, W i m H →
      (J.stop i H ∧ Qd H) ∨ (J.go i H ∧ ∃ Nx : Hp → Prop, (∀ H', Nx H' → ∃ m', m' < m ∧ W (i + 1) m' H') ∧ ∀ x H', J.yld i H x H' → g x (wipe σ vs) H' fun σ2 H2 => wipe σ2 vs = wipe σ vs ∧ tt σ2 H2 fun b H3 =>
        if b = true then tk σ2 H3 fun y H4 => tv σ2 H4 fun z H5 => ∃ kvs k, y = kV k ∧ H5 D = some (.dK kvs) ∧ kvs.length < sizeLine ∧ Nx (upd H5 D (.dK (putK kvs k z))) else Nx H3) := by
  refine dc_it w (fun i H => Same H1 H ∧ ∃ ad, H D = some (.dK (kvsOf (names.take i) ad)) ∧ ∀ n, n ∈ names.take i → R H n (ad n)) ⟨Same.new (Same.refl _) hD, fun _ => 0, by rw [List.take_zero]; exact upd_same, fun n hn => by rw [List.take_zero] at hn; cases hn⟩ (fun i H _ p => hG H p.1) ?_ ?_
  · rintro i x H H' hi ⟨s, ad, hk, hr⟩ y
    obtain ⟨n, hn⟩ : ∃ n, names[i]? = some n := ⟨_, List.getElem?_eq_getElem hi⟩
    refine hs i n x H H' _ _ hn s y fun a H5 s5 h5 => ?_
    have hk5 := s5 _ _ hk
    have nin : ¬ n ∈ names.take i := fun z => by
      obtain ⟨j, hj, e⟩ := List.getElem_of_mem z
      rw [List.length_take] at hj
      rw [List.getElem_take] at e
      have h1 : names[i] = n := by
        have := List.getElem?_eq_getElem hi
        rw [hn] at this
        exact (Option.some.inj this).symm
      have hjl : j < names.length := by omega
      have q := List.pairwise_iff_getElem.mp hnd j i hjl hi (by omega)
      exact q (by rw [e, h1])
    have tk1 : names.take (i + 1) = names.take i ++ [n] := by rw [List.take_succ, hn]; rfl
    refine ⟨_, Sum.inr n, rfl, hk5, ?_, ?_, fun m => if m = n then a else ad m, ?_, fun m hm => ?_⟩
    · rw [kvsOf_len, List.length_take]
      have : (1000 : Nat) < sizeLine := by decide
      omega
    · intro b o e
      have e5 := s5 _ _ (s b o e)
      rw [upd_ne (ne_of_none e hD)]
      exact e5
    · rw [kvsOf_snoc nin, tk1]
      exact upd_same
    · rw [tk1] at hm
      rcases List.mem_append.mp hm with hm | hm
      · have ne : ¬ m = n := fun z => nin (by rw [← z]; exact hm)
        show R _ m (if m = n then a else ad m)
        rw [if_neg ne]
        exact hR2 _ _ _ _ _ hk5 (hR1 _ _ _ _ s5 (hr m hm))
      · rw [List.mem_singleton.mp hm]
        show R _ n (if n = n then a else ad n)
        rw [if_pos rfl]
        exact hR2 _ _ _ _ _ hk5 h5
  · rintro H ⟨s, ad, hk, hr⟩
    rw [List.take_length] at hk hr
    exact hd H ad s hk hr
/-! ### Net.__init__ -/
section
variable {P : Program} {w : World} {K : PySem.W.Frag} {mg : Str → Option Value} {base : Heap} {C : Addr}
def spInit (K : PySem.W.Frag) (C : Addr) : Sp := fun vs H Q _ => ∃ (x e dx : Addr) (ns : List Str) (rw : Str → List Str) (ad : Str → Addr) (b : Bool), vs = [.ref x, .ref e] ∧ H x = some (.ins C dx []) ∧ H e = some (.dK (kvsOf ns ad)) ∧ Good ns rw ∧ RowsB K H ns rw ad b ∧
  ∀ H' d ad', But x H H' → NetAt K C H' x d (srt ns) rw ad' → (b = true → ∀ n, n ∈ ns → ad' n = ad n) → Q .non H'
theorem scInit : FnScope ["self", "needs", "names", "name"] ["self", "needs"] (defScope sInit) := ⟨rfl, rfl, rfl, by decide +kernel, rfl, by decide +kernel, by decide +kernel⟩
theorem ok_init {f fI fN : Addr} {fd fdI fdN : FuncData} (F : Fun K "__init__" "Net.__init__" sInit f fd) (T : NetK K C) (B : Bt mg) (GI : Gf K mg "is_name" sIsName ["value"] fI fdI) (GN : Gf K mg "is_needs" sIsNeeds ["needs", "names"] fN fdN) : FnOk P w K mg base CX0 2 f fd ["self", "needs"] (spInit K C) := by
  obtain ⟨tv, hv⟩ := B.mostV
  have I1 : FnOk P w K mg base CX0 1 fI fdI ["value"] spIsName := ok_isName GI.F B
  have N1 : FnOk P w K mg base CX0 1 fN fdN ["needs", "names"] (spIsNeeds K) := ok_isNeeds GN.F B
  refine F.ok scInit (fun vs H Q E h => ?_) (fun cdv A outer s H vs Q E hr h => ?_)
  · obtain ⟨x, e, dx, ns, rw_, ad, b, rfl, _⟩ := h
    rfl
  · obtain ⟨x, e, dx, ns, rw_, ad, b, rfl, hx, he, G, R, k⟩ := h
    have nd := scInit.nd
    refine ⟨_, pss_cons (ps_if (PW.pt (pw_or (pt_not (pt_val (pe_callB call_isi (by rfl) B.isi boot_isi (pa_cons (pv 1) (pa_cons (pe_bltn (v := .ty "dict") (by rfl) B.dict boot_tdict rfl) pa_nil)))))
          (pw_or1 (pt_not (pt_chain op_le op_le pe_int (pe_callB call_lenD (by rfl) B.len PySem.boot_len (pa_cons (pv 1) pa_nil)) (pe_glob (v := .int 5) (by rfl) hv ⟨_, rfl⟩)))))) pss_never pss_nil)
      (pss_cons (ps_if (pt_cmpR (op_neD hr.units) (pe_lock (pe_lc (own := [("name", 3)]) (g := gName 3) (by rfl) nd (pi_keys (pv 1)) (blkOk_by (own := [("name", 3)]) (N := ["self", "needs", "names", "name"]) (sc := defScope sInit) (by decide +kernel))
          (fun _ _ _ _ _ => pg_name (i := 3) nd rfl (Or.inl rfl)) (fun _ _ _ _ _ => pts_one (pt_not (pt_val (pe_call I1 hr rfl GI.g GI.F.kp GI.b .nil pass0 (pa_cons (pv 3) pa_nil))))) (fun _ _ _ _ _ => pv 3))) (pe_lst pa_nil) (nomark _)) pss_never pss_nil)
      (pss_cons (ps_set (i := 2) nd rfl (Or.inl rfl) (pe_callB cr_sortedS (by rfl) B.sorted boot_bsorted (pa_cons (pe_lock (pe_lc (own := [("name", 3)]) (g := gName 3) (by rfl) nd (pi_keys (pv 1)) (blkOk_by (own := [("name", 3)]) (N := ["self", "needs", "names", "name"]) (sc := defScope sInit) (by decide +kernel))
          (fun _ _ _ _ _ => pg_name (i := 3) nd rfl (Or.inl rfl)) (fun _ _ _ _ _ => pts_nil) (fun _ _ _ _ _ => pe_callTy SkE.call_str_str (by rfl) B.str boot_tstr (pa_cons (pv 3) pa_nil)))) pa_nil)))
      (pss_cons (ps_for PassesOwn.never rfl (pi_list (pv 2)) (pg_name (i := 3) nd rfl (Or.inl rfl))
          (pss_one (ps_if (pt_not (pt_val (pe_call N1 hr rfl GN.g GN.F.kp GN.b .nil pass0 (pa_cons (pe_dget (hu_of hr) (pv 1) (pv 3) (fun _ _ => rfl)) (pa_cons (pv 2) pa_nil))))) pss_never pss_nil)))
      (pss_one (ps_fld (pv 0) (pe_dc (own := [("name", 3)]) (g := gName 3) (by rfl) nd (pi_list (pv 2)) (blkOk_by (own := [("name", 3)]) (N := ["self", "needs", "names", "name"]) (sc := defScope sInit) (by decide +kernel))
          (fun _ _ _ _ _ => pg_name (i := 3) nd rfl (Or.inl rfl)) (fun _ _ _ _ _ => pts_nil) (fun _ _ _ _ _ => pv 3) (fun _ _ _ _ _ => pe_tupleOfK K rfl (by rfl) B.tuple (pe_dget (hu_of hr) (pv 1) (pv 3) (fun _ _ => rfl)))) rfl))))), ?_⟩
    have lo : 1 ≤ (kvsOf ns ad).length := by rw [kvsOf_len]; exact G.lo
    have hi5 : (kvsOf ns ad).length ≤ 5 := by rw [kvsOf_len]; exact G.hi
    have l5 : ns.length ≤ 5 := G.hi
    refine ⟨_, rfl, _, _, _, _, true, rfl, .ty "dict", .base (.dK he), kit_ty (by decide +kernel), true, rfl, iteF ⟨_, rfl, e, _, rfl, he, _, _, rfl, rfl, _, rfl, ?_⟩⟩
    rw [if_pos (decide_eq_true (by omega))]
    refine ⟨_, _, rfl, rfl, _, rfl, ?_⟩
    rw [decide_eq_true (show ((kvsOf ns ad).length : Int) ≤ 5 by omega)]
    refine iteF ?_
    -- every name is a name
    refine ⟨e, _, he, trivial, fun od => lcN (K := K) od he (by omega) (fun R q => ⟨_, rfl, q⟩) (fun _ => none) (fun _ _ _ h => nomatch h) ?_ ?_⟩
    · rintro i n H1 kt kf hn s1 _ kN
      exact ⟨rfl, _, rfl, n, rfl, G.nm n (List.mem_of_getElem? hn), fun H2 s2 => ⟨true, rfl, iteF (kN _ rfl s2)⟩⟩
    rintro D H0 us hD hz s1 hu hp
    refine ⟨hz, ?_⟩
    generalize upd H0 e (.dK (kvsOf ns ad)) = H1 at s1 hu hp ⊢
    have eu : ns.filterMap (fun _ => (none : Option PyData)) = [] := by simp
    rw [eu] at hp
    cases hp
    refine ⟨Nat.zero_le _, fun p hp => ⟨.list [], .list [], dp_nil (by rw [upd_ne (ne_of_none hu hp)]; exact hu), dp_nil upd_same, shaped_nil, shaped_nil, _, rfl, ?_⟩⟩
    rw [eqv_nil]
    refine iteF ?_
    have s2 : Same H (upd H1 p (.lst [])) := Same.new s1 hp
    generalize upd H1 p (.lst []) = H2 at s2 ⊢
    -- the names, ascending
    refine ⟨e, _, s2 _ _ he, trivial, fun od => lcN (K := K) od (s2 _ _ he) (by omega) (fun R q => ⟨_, rfl, q⟩) (fun n => some (.str n)) (fun _ _ _ h => by cases h; rfl) ?_ ?_⟩
    · rintro i n H3 kt kf hn s3 kT _
      exact ⟨rfl, _, rfl, n, rfl, kT _ _ _ rfl (Same.refl _) (.str n)⟩
    rintro D3 H0 us hD3 hz s3 hu3 hp3
    refine ⟨hz, ?_⟩
    generalize upd H0 e (.dK (kvsOf ns ad)) = H3 at s3 hu3 hp3 ⊢
    have eu : ns.filterMap (fun n => some (PyData.str n)) = ns.map PyData.str := List.filterMap_eq_map ▸ rfl
    rw [eu] at hp3
    obtain rfl := dpAll_strs' hp3
    refine ⟨D3, ns, rfl, .inl (.inl hu3), by omega, fun ys l hperm hsort hl => ?_⟩
    obtain rfl : ys = srt ns := srt_eq hperm hsort
    have s4 : Same H (upd H3 l (.lst ((srt ns).map V.str))) := Same.new (Same.trans s2 s3) hl
    have hl4 : SqL K (upd H3 l (.lst ((srt ns).map V.str))) l ((srt ns).map V.str) := .inl (.inl upd_same)
    generalize upd H3 l (.lst ((srt ns).map V.str)) = H4 at s4 hl4 ⊢
    have sl : (srt ns).length ≤ 5 := by rw [(srt_perm ns).length_eq]; exact l5
    -- each one's needs
    refine ⟨_, rfl, l, rfl, ⟨_, hl4⟩, for_it (walk_list (xs := (srt ns).map V.str)) (fun _ σ H' => ∃ v, σ = [some (.ref x), some (.ref e), some (.ref l), v] ∧ Same H4 H') ⟨_, rfl, Same.refl _⟩ (fun i σ H' _ p => by obtain ⟨v, _, s5⟩ := p; exact sqL_same s5 hl4) ?_ ?_⟩
    · rintro i y σ1 H5 H6 hi ⟨v, rfl, s5⟩ ⟨rfl, hy⟩
      obtain ⟨n, hn, rfl⟩ := at_str hy
      have hn' : n ∈ ns := srt_mem.mp (List.mem_of_getElem? hn)
      have s6 : Same H H6 := Same.trans s4 s5
      refine ⟨_, rfl, _, rfl, e, _, rfl, dget_row (.inl (s6 _ _ he)) hn', _, rfl, ?_⟩
      exact ⟨ad n, l, rw_ n, srt ns, rfl, (R.same s6).or hn', sqL_same s5 hl4, G.rnd n hn', G.rlen hn', fun z hz => srt_mem.mpr (G.sub n hn' z hz), fun H7 s7 => ⟨true, rfl, iteF ⟨_, rfl, Same.trans s5 s7⟩⟩⟩
    rintro σ1 H5 ⟨v, rfl, s5⟩
    have s6 : Same H H5 := Same.trans s4 s5
    have hl5 := sqL_same (K := K) s5 hl4
    have wk : Walk (Itl K l) (srt ns).length (fun H => SqL K H l ((srt ns).map V.str)) (YAt ((srt ns).map V.str)) := by
      have := walk_list (K := K) (a := l) (xs := (srt ns).map V.str)
      rwa [List.length_map] at this
    -- the rows
    refine ⟨_, rfl, l, rfl, ⟨_, hl5⟩, fun D5 hD5 => dcRows hD5 wk (srt_nodup G.nd) (by omega) (fun H' s' => sqL_same s' hl5) (fun H n a => SqT K H a ((rw_ n).map V.str) ∧ (b = true → a = ad n)) (fun _ _ _ _ s' h => ⟨sqT_same s' h.1, h.2⟩) (fun _ _ _ _ _ hk h => ⟨sqT_updD hk h.1, h.2⟩) ?_ ?_⟩
    · rintro i n y H6 H7 kt kf hn s7 ⟨rfl, hy⟩ kT
      obtain ⟨n', hn', rfl⟩ := at_str hy
      rw [hn] at hn'
      cases hn'
      have hn' : n ∈ ns := srt_mem.mp (List.mem_of_getElem? hn)
      have s8 : Same H H7 := Same.trans s6 s7
      refine ⟨rfl, _, rfl, _, rfl, _, rfl, e, _, rfl, dget_row (.inl (s8 _ _ he)) hn', ?_⟩
      have r := (R.same s8) n hn'
      cases b with
      | true => exact .inr ⟨ad n, _, rfl, r, kT _ _ (Same.refl _) ⟨r, fun _ => rfl⟩⟩
      | false => exact .inl ⟨ad n, _, rfl, r, fun q hq => kT _ _ (Same.new (Same.refl _) hq) ⟨.inl (.inl upd_same), fun z => by cases z⟩⟩
    intro H6 ad' s7 hD6 hr
    have s8 : Same H H6 := Same.trans s6 s7
    have hx6 := s8 _ _ hx
    have ne : D5 ≠ x := ne_of hD6 hx6 (by intro z; cases z)
    refine ⟨_, rfl, x, C, dx, [], rfl, hx6, T.cls, T.nr, by decide, k _ D5 ad' (But.trans (Same.but s8) But.upd) ⟨⟨dx, upd_same⟩, ?_, fun n hn => sqT_updI hx6 (hr n hn).1⟩ fun hb n hn => (hr n (srt_mem.mpr hn)).2 hb⟩
    rw [upd_ne ne]
    exact hD6
end
end Fm
set_option Elab.async false
set_option linter.all false
set_option maxRecDepth 100000
namespace Fm
open PySem L2 PySem.Spec
theorem asg_of {te : TE} {g : TG} {D : Ends} {σ : St} {H : Hp} (h : te σ H fun x H1 => g x σ H1 D.nx) : tAsg te g D σ H := h
theorem But.same {p : Addr} {H H' : Hp} (e : But p H H') (n : H p = none) : Same H H' := fun c o h => e c o h (ne_of_none h n)
theorem NetAt.updL {K : PySem.W.Frag} {C : Addr} {H : Hp} {x d p : Addr} {ns : List Str} {rw : Str → List Str} {ad : Str → Addr} {acc : List V} {o : HO} (N : NetAt K C H x d ns rw ad) (hp : H p = some (.lst acc)) : NetAt K C (upd H p o) x d ns rw ad := by
  obtain ⟨dx, hx⟩ := N.ob
  refine ⟨⟨dx, ?_⟩, ?_, fun n hn => sqT_upd hp (N.ro n hn)⟩
  · rw [upd_ne (ne_of hx hp (by intro z; cases z))]; exact hx
  · rw [upd_ne (ne_of N.dc hp (by intro z; cases z))]; exact N.dc
theorem dp_list {K : PySem.W.Frag} {H : Hp} {p : Addr} {us : List V} {ds : List PyData} (h : H p = some (.lst us)) (hd : DpAll K H us ds) : Dp K H (.ref p) (.list ds) := .lst (.inl (.inl h)) hd
section
variable {P : Program} {w : World} {K : PySem.W.Frag} {mg : Str → Option Value} {base : Heap} {C : Addr}
/-! ### order -/
def spOrder (K : PySem.W.Frag) (C : Addr) : Sp := fun vs H Q _ => ∃ (x d : Addr) (ns : List Str) (rw : Str → List Str) (ad : Str → Addr), vs = [.ref x] ∧ NetAt K C H x d ns rw ad ∧ Good ns rw ∧
  ∀ H' v, Same H H' → (Stuck ns rw → v = .non) → (¬ Stuck ns rw → ∃ p, v = .ref p) → Q v H'
theorem scOrder : FnScope ["self", "found", "ready", "name"] ["self"] (defScope sOrder) := ⟨rfl, rfl, rfl, by decide +kernel, rfl, by decide +kernel, by decide +kernel⟩
theorem ok_order {f fL : Addr} {fd fdL : FuncData} (F : Fun K "order" "Net.order" sOrder f fd) (T : NetK K C) (B : Bt mg) (GL : Gm K C "lacks" "Net.lacks" sLacks ["self", "name", "made"] fL fdL) : FnOk P w K mg base CX0 2 f fd ["self"] (spOrder K C) := by
  have L1 : FnOk P w K mg base CX0 1 fL fdL ["self", "name", "made"] (spLacks K C) := ok_lacks GL.F T
  refine F.ok scOrder (fun vs H Q E h => ?_) (fun cdv A outer s H vs Q E hr h => ?_)
  · obtain ⟨x, d, ns, rw_, ad, rfl, _⟩ := h
    rfl
  · obtain ⟨x, d, ns, rw_, ad, rfl, N, G, k⟩ := h
    have nd := scOrder.nd
    refine ⟨_, pss_cons (ps_set (i := 1) nd rfl (Or.inr rfl) (pe_lst pa_nil))
      (pss_cons (ps_while PassesOwn.never (pt_cmpR op_lt (pe_callB call_len_seq (by rfl) B.len PySem.boot_len (pa_cons (pv 1) pa_nil)) (pe_callB call_lenD (by rfl) B.len PySem.boot_len (pa_cons (pe_fld (pv 0) rfl) pa_nil)) (nomark _))
        (pss_cons (ps_lock (ps_setLc (i := 2) (own := [("name", 3)]) (g := gName 3) (by rfl) nd rfl (by rfl) (sw_true rfl (by rfl) (by rfl) (by decide +kernel)) (pi_keys (pe_fld (pv 0) rfl)) (blkOk_by (own := [("name", 3)]) (N := ["self", "found", "ready", "name"]) (sc := defScope sOrder) (by decide +kernel))
            (fun _ _ _ _ _ => pg_name (i := 3) nd rfl (Or.inl rfl)) (fun _ _ _ _ _ => pts_one (PW.pt (pw_and (pt_cmpR (r := rIn K true) op_notIn_seq (pv 3) (pv 1) rfl) (pw_and1 (pt_not (pt_val (pe_meth (C := C) (pv 0) T.cls GL.mt L1 hr GL.b .nil pass0 (pa_cons (pv 3) (pa_cons (pv 1) pa_nil))))))))) (fun _ _ _ _ _ => pv 3)))
        (pss_cons (ps_if (pt_cmpR (op_eqD hr.units) (pv 2) (pe_lst pa_nil) (nomark _)) (pss_one (ps_ret pe_non)) pss_nil)
        (pss_one (ps_expr (pe_bm PySem.F.plainAttrs_list PySem.F.slot_list_append PySem.F.type_list_append mt_append (pv 1) (pa_cons (pe_ix ix_list (pv 2) pe_int (fun _ _ => rfl)) pa_nil)))))))
      (pss_one (ps_ret (pv 1)))), ?_⟩
    obtain ⟨dx, hx⟩ := N.ob
    refine ⟨Nat.zero_le _, fun q hq => ?_⟩
    refine ⟨fun m σ H' => ∃ fs v2, m = ns.length - fs.length ∧ σ = [some (.ref x), some (.ref q), v2, none] ∧ But q H H' ∧ H' q = some (.lst (fs.map V.str)) ∧ OrdInv ns rw_ fs, ⟨_, [], none, rfl, rfl, But.upd, upd_same, OrdInv.nil _ _⟩, ?_⟩
    rintro m σ H1 ⟨fs, v2, rfl, rfl, hb, hq1, I⟩
    have s1 : Same H H1 := hb.same hq
    have N1 := N.same s1
    have hx1 := s1 _ _ hx
    refine ⟨_, rfl, q, _, rfl, .inl (.inl (.inl hq1)), _, rfl, x, _, _, _, _, rfl, hx1, T.cls, T.nr, rows_look, d, _, rfl, N1.dc, _, _, rfl, rfl, _, rfl, ?_⟩
    rw [List.length_map, kvsOf_len]
    refine ite2 (fun h => ?_) (fun h => ?_)
    · have hlt : fs.length < ns.length := by have := of_decide_eq_true h; omega
      have l5 := G.hi
      refine ⟨fun σ H' => ∃ fs' v2, ns.length - fs'.length < ns.length - fs.length ∧ σ = [some (.ref x), some (.ref q), v2, none] ∧ But q H H' ∧ H' q = some (.lst (fs'.map V.str)) ∧ OrdInv ns rw_ fs', fun σ' H' h => ?_, ?_⟩
      · obtain ⟨fs', v, h1, h2⟩ := h
        exact ⟨_, h1, fs', v, rfl, h2⟩
      refine ⟨d, _, N1.dc, trivial, fun od => asg_of ?_⟩
      refine lcN (K := K) od N1.dc (by omega) (fun R qq => ?_) (fun n => if (!decide (n ∈ fs) && ((rw_ n).filter fun y => !decide (y ∈ fs)).isEmpty) = true then some (.str n) else none) (fun n hn e he => ?_) ?_ ?_
      · exact ⟨_, rfl, x, _, _, _, _, rfl, (N1.lock od).ob.choose_spec, T.cls, T.nr, rows_look, qq⟩
      · split at he
        · cases he; rfl
        · cases he
      · rintro i n H2 kt kf hn s2 kT kN
        have hn' := List.mem_of_getElem? hn
        have N2 := (N1.lock od).same s2
        obtain ⟨dx2, hx2⟩ := N2.ob
        have hq2 : SqL K H2 q (fs.map V.str) := sqL_same s2 (sqL_lock N1.dc dk_nf (.inl (.inl hq1)))
        refine ⟨rfl, _, rfl, _, rfl, q, _, rfl, .inl hq2, rfl, flat_strs fs, _, rfl, ?_⟩
        rw [if_pos rfl, inV_str]
        cases e1 : decide (n ∈ fs) with
        | true =>
          refine iteF (iteF (kN _ ?_ (Same.refl _)))
          rw [e1]
          rfl
        | false =>
          refine iteT ⟨_, rfl, x, dx2, _, rfl, hx2, rows_no (by decide), _, rfl, _, rfl, x, d, q, n, ns, fs, rw_, ad, rfl, N2, hn', G, hq2, fun H3 s3 => ⟨_, rfl, ?_⟩⟩
          cases e2 : ((rw_ n).filter fun y => !decide (y ∈ fs)).isEmpty with
          | true =>
            refine iteT ⟨_, rfl, kT _ _ _ ?_ s3 (.str n)⟩
            rw [e1, e2]
            rfl
          | false =>
            refine iteF (kN _ ?_ s3)
            rw [e1, e2]
            rfl
      · rintro D H0 us hD hz s2 hu hp
        refine ⟨hz, ?_⟩
        generalize upd H0 d (.dK (kvsOf ns ad)) = H2 at s2 hu hp ⊢
        rw [fm_filter] at hp
        obtain rfl := dpAll_strs' hp
        have hq2 := s2 _ _ hq1
        refine ⟨_, rfl, Nat.zero_le _, fun p hp3 => ?_⟩
        have s3 : Same H2 (upd H2 p (.lst [])) := Same.new (Same.refl _) hp3
        have hu3 := s3 _ _ hu
        have hq3 := s3 _ _ hq2
        have sA : Same H1 (upd H2 p (.lst [])) := Same.trans s2 s3
        have nil3 : (upd H2 p (.lst [])) p = some (.lst []) := upd_same
        generalize upd H2 p (.lst []) = H3 at s3 hu3 hq3 sA nil3 ⊢
        refine ⟨_, _, dp_list hu3 dpAll_strs, dp_nil nil3, (Lv.list (k := 0) (lv_strs fun y hy => G.str (List.mem_filter.mp hy).1)).shaped (by decide), shaped_nil, _, rfl, ?_⟩
        rw [eqv_empty]
        cases ef : ns.filter (fun n => !decide (n ∈ fs) && ((rw_ n).filter fun y => !decide (y ∈ fs)).isEmpty) with
        | nil =>
          have stuck : Stuck ns rw_ := I.stuck G.sub G.nd hlt fun n hn hnf => by
            have hp := List.filter_eq_nil_iff.mp ef n hn
            cases e2 : (rw_ n).filter (fun y => !decide (y ∈ fs)) with
            | nil =>
              rw [e2] at hp
              simp [hnf] at hp
            | cons y r =>
              have hy : y ∈ (rw_ n).filter (fun y => !decide (y ∈ fs)) := by rw [e2]; exact List.mem_cons_self
              have := List.mem_filter.mp hy
              exact ⟨y, this.1, by simpa using this.2⟩
          exact iteT (k _ _ (Same.trans s1 sA) (fun _ => rfl) fun h => (h stuck).elim)
        | cons n0 rest =>
          refine iteF ?_
          have hn0 : n0 ∈ ns.filter (fun n => !decide (n ∈ fs) && ((rw_ n).filter fun y => !decide (y ∈ fs)).isEmpty) := by rw [ef]; exact List.mem_cons_self
          obtain ⟨m1, m2⟩ := List.mem_filter.mp hn0
          have m3 : ¬ n0 ∈ fs ∧ ((rw_ n0).filter fun y => !decide (y ∈ fs)) = [] := by simpa using m2
          have I' := I.step m1 m3.1 fun m hm => by
            have := List.filter_eq_nil_iff.mp m3.2 m hm
            simpa using this
          rw [ef] at hu3
          have lenf : fs.length < 1000 := by omega
          refine ⟨_, rfl, .inl ⟨rfl, _, .inl (.inl hq3)⟩, _, rfl, D, _, 0, .str n0, rfl, rfl, .inl (.inl hu3), atI_nat (j := 0) (by rfl), q, _, .str n0, rfl, rfl, hq3, ?_, ?_⟩
          · rw [List.length_map]
            have : (1000 : Nat) < sizeLine := by decide
            omega
          · refine ⟨fs ++ [n0], _, ?_, rfl, But.trans hb (But.trans (Same.but sA) But.upd), ?_, I'⟩
            · rw [List.length_append]
              simp
              omega
            · rw [List.map_append]
              exact upd_same
    · have hle : ns.length ≤ fs.length := by
        have : ¬ (fs.length : Int) < ns.length := fun z => h (decide_eq_true z)
        omega
      exact ⟨_, rfl, k _ _ s1 (fun st => (I.done hle st).elim) fun _ => ⟨q, rfl⟩⟩
end
end Fm
set_option Elab.async false
set_option linter.all false
set_option maxRecDepth 100000
namespace Fm
open PySem L2 PySem.Spec
theorem pairs_take {ns : List Str} {rw : Str → List Str} {i : Nat} {n : Str} (h : ns[i]? = some n) : pairsOf (ns.take (i + 1)) rw = pairsOf (ns.take i) rw ++ (rw n).map fun m => (n, m) := by
  rw [List.take_succ, h]
  show pairsOf (ns.take i ++ [n]) rw = _
  unfold pairsOf
  rw [List.flatMap_append]
  simp
theorem Good.plen {ns : List Str} {rw : Str → List Str} (g : Good ns rw) {l : List Str} (hs : ∀ n, n ∈ l → n ∈ ns) (hl : l.length ≤ 5) : (pairsOf l rw).length ≤ 25 := by
  have := flatMap_len (l := l) (f := fun n => (rw n).map fun m => (n, m)) (c := 5) fun n hn => by rw [List.length_map]; exact g.rlen (hs n hn)
  unfold pairsOf
  omega
section
variable {P : Program} {w : World} {K : PySem.W.Frag} {mg : Str → Option Value} {base : Heap} {C : Addr}
/-! ### pairs -/
def spPairs (K : PySem.W.Frag) (C : Addr) : Sp := fun vs H Q _ => ∃ (x d : Addr) (ns : List Str) (rw : Str → List Str) (ad : Str → Addr), vs = [.ref x] ∧ NetAt K C H x d ns rw ad ∧ Good ns rw ∧
  ∀ H' D us, Same H H' → H' D = some (.lst us) → DpAll K H' us ((pairsOf ns rw).map prD) → Q (.ref D) H'
theorem scPairs : FnScope ["self", "name", "need"] ["self"] (defScope sPairs) := ⟨rfl, rfl, rfl, by decide +kernel, rfl, by decide +kernel, by decide +kernel⟩
theorem ok_pairs {f : Addr} {fd : FuncData} (F : Fun K "pairs" "Net.pairs" sPairs f fd) (T : NetK K C) : FnOk P w K mg base CX0 1 f fd ["self"] (spPairs K C) := by
  refine F.ok scPairs (fun vs H Q E h => ?_) (fun cdv A outer s H vs Q E hr h => ?_)
  · obtain ⟨x, d, ns, rw_, ad, rfl, _⟩ := h
    rfl
  · obtain ⟨x, d, ns, rw_, ad, rfl, N, G, k⟩ := h
    have nd := scPairs.nd
    refine ⟨_, pss_one (ps_ret (pe_lock (pe_lc2 (own := [("name", 1), ("need", 2)]) (vs1 := [2]) (g := gName 1) (g1 := gName 2) (by rfl) nd (pi_keys (pe_fld (pv 0) rfl)) (blkOk_by (own := [("name", 1), ("need", 2)]) (N := ["self", "name", "need"]) (sc := defScope sPairs) (by decide +kernel)) (by decide)
        (fun _ _ _ _ _ => pg_name (i := 1) nd rfl (Or.inl rfl)) (fun _ _ _ _ _ => pts_nil)
        (fun _ _ _ _ _ => pi_tupK K rfl (pe_dget (hu_of hr) (pe_fldK K rfl (pv 0) rfl) (pv 1) (fun _ _ => rfl)))
        (fun _ _ _ _ _ => pg_name (i := 2) nd rfl (Or.inl rfl)) (fun _ _ _ _ _ => pts_nil) (fun _ _ _ _ _ => pe_tup (pa_cons (pv 1) (pa_cons (pv 2) pa_nil)))))), ?_⟩
    obtain ⟨dx, hx⟩ := N.ob
    have l5 := G.hi
    refine ⟨d, _, N.dc, trivial, fun od => ?_⟩
    have NL := N.lock od
    obtain ⟨dx', hx'⟩ := NL.ob
    refine ⟨_, rfl, x, _, _, _, _, rfl, hx', T.cls, T.nr, rows_look, d, od, rfl, .inl ⟨_, upd_same, fun D hD => ?_⟩⟩
    have ne : D ≠ d := fun z => by rw [z, upd_same] at hD; cases hD
    have hD0 : H D = none := by rw [upd_ne ne] at hD; exact hD
    have sz : (1000 : Nat) < sizeLine := by decide
    refine ⟨fun i m H' => m = ns.length - i ∧ i ≤ ns.length ∧ Same (upd H d (.frz od (.dK (kvsOf ns ad)))) H' ∧ ∃ us, H' D = some (.lst us) ∧ DpAll K H' us ((pairsOf (ns.take i) rw_).map prD), ⟨_, rfl, Nat.zero_le _, Same.new (Same.refl _) hD, [], upd_same, by rw [List.take_zero]; exact .nil⟩, ?_⟩
    rintro i m H1 ⟨rfl, hi, s1, us, hu, hp⟩
    have hd1 := s1 _ _ upd_same
    rcases Nat.lt_or_ge i ns.length with hlt | hge
    · refine .inr ⟨⟨hd1, by rw [kvsOf_len]; exact hlt⟩, fun H' => Same (upd H d (.frz od (.dK (kvsOf ns ad)))) H' ∧ ∃ us, H' D = some (.lst us) ∧ DpAll K H' us ((pairsOf (ns.take (i + 1)) rw_).map prD), fun H' q => ⟨ns.length - (i + 1), by omega, rfl, hlt, q⟩, ?_⟩
      rintro y H2 ⟨rfl, kk, v, hk, rfl⟩
      obtain ⟨n, hn, rfl, rfl⟩ := kvsOf_get hk
      have hn' := List.mem_of_getElem? hn
      have N2 := NL.same s1
      obtain ⟨dx2, hx2⟩ := N2.ob
      have sub : ∀ z, z ∈ ns.take i → z ∈ ns := fun z hz => List.mem_of_mem_take hz
      have pl := G.plen (l := ns.take i) sub (by rw [List.length_take]; omega)
      have rl := G.rlen hn'
      refine ⟨rfl, _, rfl, x, _, _, _, _, rfl, hx2, T.cls, T.nr, rows_look, _, rfl, d, _, rfl, dget_row N2.dc hn', ad n, rfl, ⟨_, N2.ro n hn'⟩, ?_⟩
      refine ⟨fun j m H' => m = (rw_ n).length - j ∧ j ≤ (rw_ n).length ∧ Same (upd H d (.frz od (.dK (kvsOf ns ad)))) H' ∧ ∃ us, H' D = some (.lst us) ∧ DpAll K H' us ((pairsOf (ns.take i) rw_ ++ ((rw_ n).take j).map fun m => (n, m)).map prD), ⟨_, rfl, Nat.zero_le _, s1, us, hu, by rw [List.take_zero, List.map_nil, List.append_nil]; exact hp⟩, ?_⟩
      rintro j m H3 ⟨rfl, hj, s3, us3, hu3, hp3⟩
      have N3 := NL.same s3
      have wk := walk_tup (K := K) (a := ad n) (xs := (rw_ n).map V.str)
      rcases Nat.lt_or_ge j (rw_ n).length with jl | jg
      · have go := wk.goes j H3 (by rw [List.length_map]; exact jl) (N3.ro n hn')
        refine .inr ⟨go, fun H' => Same (upd H d (.frz od (.dK (kvsOf ns ad)))) H' ∧ ∃ us, H' D = some (.lst us) ∧ DpAll K H' us ((pairsOf (ns.take i) rw_ ++ ((rw_ n).take (j + 1)).map fun m => (n, m)).map prD), fun H' q => ⟨(rw_ n).length - (j + 1), by omega, rfl, jl, q⟩, ?_⟩
        intro y H4 yd
        obtain ⟨rfl, hy⟩ := wk.yields j H3 y H4 (by rw [List.length_map]; exact jl) (N3.ro n hn') yd
        obtain ⟨z, hz, rfl⟩ := at_str hy
        refine ⟨rfl, _, rfl, _, rfl, (by show 2 ≤ sizeLine; omega), fun q hq => ?_⟩
        have sq : Same H4 (upd H4 q (.tup [.str n, .str z])) := Same.new (Same.refl _) hq
        have hu4 := sq _ _ hu3
        have len3 := dpAll_length hp3
        rw [List.length_map, List.length_append, List.length_map, List.length_take] at len3
        refine ⟨us3, hu4, by omega, fun b o e => ?_, us3 ++ [.ref q], upd_same, ?_⟩
        · rw [upd_ne (ne_of_none e hD)]
          exact sq _ _ (s3 b o e)
        · have tk : (rw_ n).take (j + 1) = (rw_ n).take j ++ [z] := by rw [List.take_succ, hz]; rfl
          have ap : pairsOf (ns.take i) rw_ ++ ((rw_ n).take j ++ [z]).map (fun m => (n, m)) = (pairsOf (ns.take i) rw_ ++ ((rw_ n).take j).map fun m => (n, m)) ++ [(n, z)] := by simp
          rw [tk, ap, List.map_append]
          refine dpAll_append (dpAll_updL hu4 (tlessAll_prs _) (dpAll_same sq hp3)) (.cons (dp_updL hu4 (tless_pr _) ?_) .nil)
          exact .tup (.inl (.inl upd_same)) (.cons (.str _) (.cons (.str _) .nil))
      · have je : j = (rw_ n).length := by omega
        subst je
        rw [List.take_length] at hp3
        exact .inl ⟨by have := wk.stops H3 (N3.ro n hn'); rw [List.length_map] at this; exact this, s3, us3, hu3, by rw [pairs_take hn]; exact hp3⟩
    · have ie : i = ns.length := by omega
      subst ie
      rw [List.take_length] at hp
      refine .inl ⟨⟨hd1, by rw [kvsOf_len]; exact Nat.le_refl _⟩, hd1, k _ D us (same_unlock N.dc s1) (by rw [upd_ne ne]; exact hu) (dpAll_unlock hd1 hp)⟩
/-! ### reaches -/
def spReach (K : PySem.W.Frag) (C : Addr) : Sp := fun vs H Q _ => ∃ (x d : Addr) (n : Str) (ns : List Str) (rw : Str → List Str) (ad : Str → Addr), vs = [.ref x, .str n] ∧ NetAt K C H x d ns rw ad ∧ Good ns rw ∧ n ∈ ns ∧
  ∀ (H' : Hp) (p : Addr) (xs : List Str), Same H H' → H' p = some (.lst (xs.map V.str)) → (∀ m, m ∈ xs ↔ Tr rw n m) → xs.length ≤ 5 → Q (.ref p) H'
theorem scReach : FnScope ["self", "name", "found", "at", "need", "other"] ["self", "name"] (defScope sReaches) := ⟨rfl, rfl, rfl, by decide +kernel, rfl, by decide +kernel, by decide +kernel⟩
theorem ok_reach {f fL : Addr} {fd fdL : FuncData} (F : Fun K "reaches" "Net.reaches" sReaches f fd) (T : NetK K C) (B : Bt mg) (GL : Gm K C "look_at_name" "Net.look_at_name" sLook ["self", "name"] fL fdL) : FnOk P w K mg base CX0 2 f fd ["self", "name"] (spReach K C) := by
  have L1 : FnOk P w K mg base CX0 1 fL fdL ["self", "name"] (spLook K C) := ok_look GL.F T B
  refine F.ok scReach (fun vs H Q E h => ?_) (fun cdv A outer s H vs Q E hr h => ?_)
  · obtain ⟨x, d, n, ns, rw_, ad, rfl, _⟩ := h
    rfl
  · obtain ⟨x, d, n, ns, rw_, ad, rfl, N, G, hn, k⟩ := h
    have nd := scReach.nd
    refine ⟨_, pss_cons (ps_expr (pe_meth (C := C) (pv 0) T.cls GL.mt L1 hr GL.b .nil pass0 (pa_cons (pv 1) pa_nil)))
      (pss_cons (ps_set (i := 2) nd rfl (Or.inr rfl) (pe_callTy call_list_of (by rfl) B.list boot_tlist (pa_cons (pe_dget (hu_of hr) (pe_fld (pv 0) rfl) (pv 1) (fun _ _ => rfl)) pa_nil)))
      (pss_cons (ps_set (i := 3) nd rfl (Or.inl rfl) pe_int)
      (pss_cons (ps_while PassesOwn.never (pt_cmpR op_lt (pv 3) (pe_callB call_len_seq (by rfl) B.len PySem.boot_len (pa_cons (pv 2) pa_nil)) (nomark _))
        (pss_cons (ps_expr (pe_bm PySem.F.plainAttrs_list PySem.F.slot_list_extend PySem.F.type_list_extend mt_extend (pv 2) (pa_cons (pe_lc (own := [("need", 4)]) (g := gName 4) (by rfl) nd (pi_tup (pe_dget (hu_of hr) (pe_fld (pv 0) rfl) (pe_ix ix_list (pv 2) (pv 3) (fun _ _ => rfl)) (fun _ _ => rfl))) (blkOk_by (own := [("need", 4)]) (N := ["self", "name", "found", "at", "need", "other"]) (sc := defScope sReaches) (by decide +kernel))
            (fun _ _ _ _ _ => pg_name (i := 4) nd rfl (Or.inl rfl)) (fun _ _ _ _ _ => pts_one (pt_cmpR (r := rIn K true) op_notIn_seq (pv 4) (pv 2) rfl)) (fun _ _ _ _ _ => pv 4)) pa_nil)))
        (pss_one (ps_aug (i := 3) nd rfl (Or.inl rfl) pe_int ip_add))))
      (pss_one (ps_ret (pe_callB cr_sortedS (by rfl) B.sorted boot_bsorted (pa_cons (pe_lc (own := [("other", 5)]) (g := gName 5) (by rfl) nd (pi_list (pv 2)) (blkOk_by (own := [("other", 5)]) (N := ["self", "name", "found", "at", "need", "other"]) (sc := defScope sReaches) (by decide +kernel))
            (fun _ _ _ _ _ => pg_name (i := 5) nd rfl (Or.inl rfl)) (fun _ _ _ _ _ => pts_nil) (fun _ _ _ _ _ => pe_callTy SkE.call_str_str (by rfl) B.str boot_tstr (pa_cons (pv 5) pa_nil))) pa_nil))))))), ?_⟩
    obtain ⟨dx, hx⟩ := N.ob
    refine ⟨_, rfl, x, dx, _, rfl, hx, rows_no (by decide), _, rfl, x, d, n, ns, rw_, ad, rfl, N, hn, ?_⟩
    refine ⟨_, rfl, x, _, _, _, _, rfl, hx, T.cls, T.nr, rows_look, _, rfl, d, _, rfl, dget_row (.inl N.dc) hn, ad n, _, rfl, .inr (N.ro n hn), fun q hq => ?_⟩
    have l5 := G.hi
    have sz : (1000 : Nat) < sizeLine := by decide
    refine ⟨fun m σ H' => ∃ (fs : List Str) (i : Nat), m = ns.length - i ∧ σ = [some (.ref x), some (.str n), some (.ref q), some (.int (i : Nat)), none, none] ∧ But q H H' ∧ H' q = some (.lst (fs.map V.str)) ∧ ReachInv ns rw_ n fs i, ⟨_, rw_ n, 0, rfl, rfl, But.upd, upd_same, ReachInv.start (G.rnd n hn)⟩, ?_⟩
    rintro m σ H1 ⟨fs, i, rfl, rfl, hb, hq1, I⟩
    have s1 : Same H H1 := hb.same hq
    have N1 := N.same s1
    have hx1 := s1 _ _ hx
    have small := I.small G.sub hn
    refine ⟨_, rfl, _, rfl, q, _, rfl, .inl (.inl (.inl hq1)), _, _, rfl, rfl, _, rfl, ?_⟩
    rw [List.length_map]
    refine ite2 (fun h => ?_) (fun h => ?_)
    · have hlt : i < fs.length := by have := of_decide_eq_true h; omega
      obtain ⟨z, hz⟩ : ∃ z, fs[i]? = some z := ⟨_, List.getElem?_eq_getElem hlt⟩
      have hzn : z ∈ ns := (I.tr z (List.mem_of_getElem? hz)).in_ns G.sub hn
      have rl := G.rlen hzn
      refine ⟨fun σ H' => ∃ (fs : List Str), σ = [some (.ref x), some (.str n), some (.ref q), some (.int ((i + 1 : Nat) : Int)), none, none] ∧ But q H H' ∧ H' q = some (.lst (fs.map V.str)) ∧ ReachInv ns rw_ n fs (i + 1), fun σ' H' ⟨fs', h⟩ => ⟨ns.length - (i + 1), by omega, fs', i + 1, rfl, h⟩, ?_⟩
      refine ⟨_, rfl, .inl ⟨rfl, _, .inl (.inl hq1)⟩, ?_⟩
      refine ⟨_, rfl, x, _, _, _, _, rfl, hx1, T.cls, T.nr, rows_look, _, rfl, _, rfl, q, _, (i : Int), .str z, rfl, rfl, .inl (.inl hq1), atI_nat (by rw [List.getElem?_map, hz]; rfl), d, _, rfl, dget_row (.inl N1.dc) hzn, ad z, rfl, ⟨_, N1.ro z hzn⟩, fun D hD => ?_⟩
      refine lc_data (K := K) (walk_tup (xs := (rw_ z).map V.str)) hD (fun j => (rw_ z)[j]?.bind fun y => if (!decide (y ∈ fs)) = true then some (PyData.str y) else none) (by rw [List.length_map]; omega) (fun H' s' => sqT_same s' (N1.ro z hzn)) (fun j _ e he => ?_) ?_ ?_
      · cases hy : (rw_ z)[j]? with
        | none => rw [hy] at he; cases he
        | some y =>
          rw [hy] at he
          have he : (if (!decide (y ∈ fs)) = true then some (PyData.str y) else none) = some e := he
          split at he
          · cases he; rfl
          · cases he
      · rintro j y H2 H3 kt kf hj s2 _ ⟨rfl, hy⟩ kT kN
        obtain ⟨y, hy', rfl⟩ := at_str hy
        refine ⟨rfl, _, rfl, _, rfl, q, _, rfl, .inl (.inl (.inl (s2 _ _ hq1))), rfl, flat_strs fs, _, rfl, ?_⟩
        rw [if_pos rfl, inV_str]
        cases e : decide (y ∈ fs) with
        | true =>
          exact iteF (kN _ (by rw [hy']; show (if (!decide (y ∈ fs)) = true then some (PyData.str y) else none) = none; rw [e]; rfl) (Same.refl _))
        | false =>
          exact iteT ⟨_, rfl, kT _ _ _ (by rw [hy']; show (if (!decide (y ∈ fs)) = true then some (PyData.str y) else none) = _; rw [e]; rfl) (Same.refl _) (Dp.str y)⟩
      intro H2 us s2 hu hp
      rw [List.length_map, range_map, fm_filter] at hp
      obtain rfl := dpAll_strs' hp
      have hq2 := s2 _ _ hq1
      have fl := List.length_filter_le (fun y => !decide (y ∈ fs)) (rw_ z)
      refine ⟨q, D, _, _, rfl, rfl, hq2, hu, by rw [List.length_map, List.length_map]; omega, ?_⟩
      refine ⟨_, rfl, _, _, rfl, rfl, fs ++ (rw_ z).filter (fun y => !decide (y ∈ fs)), rfl, But.trans hb (But.trans (Same.but s2) But.upd), by rw [List.map_append]; exact upd_same, I.step hz (G.rnd z hzn)⟩
    · have hle : fs.length ≤ i := by
        have : ¬ (i : Int) < fs.length := fun z => h (decide_eq_true z)
        omega
      refine ⟨_, rfl, q, rfl, ⟨_, .inl (.inl hq1)⟩, fun D hD => ?_⟩
      refine lc_data (K := K) (walk_list (xs := fs.map V.str)) hD (fun j => fs[j]?.bind fun y => some (PyData.str y)) (by rw [List.length_map]; omega) (fun H' s' => .inl (.inl (s' _ _ hq1))) (fun j _ e he => ?_) ?_ ?_
      · cases hy : fs[j]? with
        | none => rw [hy] at he; cases he
        | some y => rw [hy] at he; cases he; rfl
      · rintro j y H2 H3 kt kf hj s2 _ ⟨rfl, hy⟩ kT kN
        obtain ⟨y, hy', rfl⟩ := at_str hy
        exact ⟨rfl, _, rfl, y, rfl, kT _ _ _ (by rw [hy']; rfl) (Same.refl _) (Dp.str y)⟩
      intro H2 us s2 hu hp
      rw [List.length_map, range_map, List.filterMap_eq_map'] at hp
      obtain rfl := dpAll_strs' hp
      refine ⟨D, fs, rfl, .inl (.inl hu), by omega, fun ys p hperm _ hp => k _ p ys (Same.new (Same.trans s1 s2) hp) upd_same (fun m => ?_) ?_⟩
      · rw [hperm.mem_iff]
        exact I.done hle m
      · rw [hperm.length_eq]
        omega
end
end Fm
set_option Elab.async false
set_option linter.all false
set_option maxRecDepth 100000
namespace Fm
open PySem L2 PySem.Spec
theorem u65 {k : Nat} {A : Around} (r : Room k A) : A.units + 65 < cLine := by have := r.un; omega
theorem sw_trueD {kx vx : Expr} {gs : List Comprehension} {scope : Scope} {pos py : Pos} {y : Str} {l : Nat} {env : Env} (hk : env.scope.kind = .function) (hy : env.scope.names.lookup y = some .local) (hl : (py.line == pos.line) = true)
    (ha : (scope.names.any fun (n, k) => n == y && (k == .local || k == .cell)) = false) : swapsWith (.DictComp kx vx gs scope pos) (some (.Name y py)) l env = pure true := by
  have ky : env.kindOf y = some .local := hy
  have hb : env.blockKind = .function := by unfold Env.blockKind; rw [hk]; rfl
  unfold swapsWith
  simp only [hb, ky, ha, Expr.pos, hl]
  rfl
theorem sqL_updD {K : PySem.W.Frag} {H : Hp} {a D : Addr} {kvs : List (Key × V)} {xs : List V} {o : HO} (hx : H D = some (.dK kvs)) (h : SqL K H a xs) : SqL K (upd H D o) a xs := by
  rcases h with (h | ⟨b, h⟩) | h
  · exact .inl (.inl (by rw [upd_ne (ne_of h hx (by intro z; cases z))]; exact h))
  · exact .inl (.inr ⟨b, by rw [upd_ne (ne_of h hx (by intro z; cases z))]; exact h⟩)
  · exact .inr h
abbrev scInner : Scope := { kind := .function, names := [(".0", .local), ("name", .cell), ("pairs", .free), ("self", .free)], isGenerator := false, isCoroutine := false }
theorem relabel_vis {env : Env} {x : Str} : ∀ {names : List (Str × NameKind)}, (names.lookup x = some .cell ∨ names.lookup x = some .free) →
    ((names.map fun (n, k) => if (k == NameKind.free && env.scope.kind == .function && env.kindOf n == some .cell) then (n, NameKind.cell) else (n, k)).lookup x = some .cell ∨ (names.map fun (n, k) => if (k == NameKind.free && env.scope.kind == .function && env.kindOf n == some .cell) then (n, NameKind.cell) else (n, k)).lookup x = some .free)
  | [], h => by simp at h
  | (n, k) :: r, h => by
    have ih := @relabel_vis env x r
    show List.lookup x ((if (k == NameKind.free && env.scope.kind == .function && env.kindOf n == some .cell) = true then (n, NameKind.cell) else (n, k)) :: _) = _ ∨ List.lookup x ((if (k == NameKind.free && env.scope.kind == .function && env.kindOf n == some .cell) = true then (n, NameKind.cell) else (n, k)) :: _) = _
    cases hx : x == n with
    | true =>
      simp only [List.lookup_cons, hx] at h
      split
      · simp only [List.lookup_cons, hx]
        exact .inl trivial
      · simp only [List.lookup_cons, hx]
        exact h
    | false =>
      simp only [List.lookup_cons, hx] at h
      split
      · simp only [List.lookup_cons, hx]
        exact ih h
      · simp only [List.lookup_cons, hx]
        exact ih h
theorem blkOk_in {N : List Str} {sc scope : Scope} {own : List (Str × Nat)} {env : Env} (h : BlkOk N sc scope own) : BlkOk N (relabel sc env) scope own :=
  ⟨h.kind, h.uniq, h.ix, fun y hy e => relabel_vis (h.free y hy e), h.own⟩
theorem made_same {H : Hp} {y dy : Addr} {o1 o2 : HO} (hy : H y = none) (hd : H dy = none) (ne : dy ≠ y) : Same H (upd (upd H dy o1) y o2) := Same.new (Same.new (Same.refl _) hd) (by rw [upd_ne ne.symm]; exact hy)
theorem made_but {H H' : Hp} {y dy : Addr} {o1 o2 : HO} (hy : H y = none) (hd : H dy = none) (ne : dy ≠ y) (b : But y (upd (upd H dy o1) y o2) H') : Same H H' := fun c o h => b c o (made_same hy hd ne c o h) (ne_of_none h hy)
section
variable {P : Program} {w : World} {K : PySem.W.Frag} {mg : Str → Option Value} {base : Heap} {C : Addr}
/-! ### without -/
def spWithout (K : PySem.W.Frag) (C : Addr) : Sp := fun vs H Q _ => ∃ (x d t : Addr) (ns : List Str) (rw : Str → List Str) (ad : Str → Addr) (rest : List V) (cut : List Pr), vs = [.ref x, .ref t] ∧ NetAt K C H x d ns rw ad ∧ Good ns rw ∧ srt ns = ns ∧
  SqT K H t rest ∧ DpAll K H rest (cut.map prD) ∧ cut.length ≤ 8 ∧ (∀ p, p ∈ cut → p ∈ pairsOf ns rw) ∧ ∀ H' x' d' ad', Same H H' → NetAt K C H' x' d' ns (rwCut rw cut) ad' → Q (.ref x') H'
theorem scWithout : FnScope ["self", "pairs", "pair", "rows", "name", "need"] ["self", "pairs"] (defScope sWithout) := ⟨rfl, rfl, rfl, by decide +kernel, rfl, by decide +kernel, by decide +kernel⟩
abbrev spWithoutV (K : PySem.W.Frag) (C : Addr) : Sp := fun vs H Q E => ∃ v rest, vs = v :: rest ∧ rest.length ≤ 8 ∧ ∀ p, H p = none → spWithout K C [v, .ref p] (upd H p (.tup rest)) Q E
theorem ok_without {f fP fI fN fJ : Addr} {fd fdP fdI fdN fdJ : FuncData} (F : Fun K "without" "Net.without" sWithout f fd) (T : NetK K C) (B : Bt mg) (GP : Gm K C "pairs" "Net.pairs" sPairs ["self"] fP fdP)
    (M : Mk K C fI) (FI : Fun K "__init__" "Net.__init__" sInit fI fdI) (bI : Binds K fdI ["self", "needs"] []) (gN : mg "Net" = some (.ref C)) (GN : Gf K mg "is_name" sIsName ["value"] fN fdN) (GJ : Gf K mg "is_needs" sIsNeeds ["needs", "names"] fJ fdJ) :
    FnR P w K mg base CX0 4 f (spWithoutV K C) := by
  have P1 : FnOk P w K mg base CX0 1 fP fdP ["self"] (spPairs K C) := ok_pairs GP.F T
  have I2 : FnOk P w K mg base CX0 2 fI fdI ["self", "needs"] (spInit K C) := ok_init FI T B GN GJ
  obtain ⟨oc, od, kv0, doc, pm, an, cdv, ct, osl, rfl, lk, hcd⟩ := F.ex
  refine fn_ofV (nmax := 8) lk hcd scWithout (by decide) (fun u rest hl => ?_) (fun _ _ _ _ _ _ _ _ _ _ _ _ h => h.elim) (fun A outer s H vs Q E hr h => ?_)
  · match rest, hl with
    | [], _ => rfl
    | [a], _ => rfl
    | [a, b], _ => rfl
    | [a, b, c], _ => rfl
    | [a, b, c, d], _ => rfl
    | [a, b, c, d, e], _ => rfl
    | [a, b, c, d, e, g], _ => rfl
    | [a, b, c, d, e, g, i], _ => rfl
    | [a, b, c, d, e, g, i, j], _ => rfl
    | _ :: _ :: _ :: _ :: _ :: _ :: _ :: _ :: _ :: r, h => exact absurd h (by simp only [List.length_cons]; omega)
  · obtain ⟨x, d, t, ns, rw_, ad, rest, cut, rfl, N, G, hsrt, ht, hc, hlen, hsub, k⟩ := h
    have nd := scWithout.nd
    suffices hh : ∃ t', PSs (cxOf CX0 P w K mg base ["self", "pairs", "pair", "rows", "name", "need"] "Net.without" (defScope sWithout) f cdv A outer s H E).nox (defBody sWithout) t' ∧ t' { nx := fun _ H' => Q .non H', rt := Q } (start ["self", "pairs", "pair", "rows", "name", "need"] [.ref x, .ref t]) H by
      obtain ⟨t', h1, h2⟩ := hh
      exact ⟨t', h1.nox, h2⟩
    refine ⟨_, pss_cons (ps_for PassesOwn.never rfl (pi_tup (pv 1)) (pg_name (i := 2) nd rfl (Or.inl rfl))
        (pss_one (ps_if (pt_cmpR (op_notInD (u65 hr)) (pv 2) (pe_meth0 (C := C) (pv 0) T.cls GP.mt P1 (hr.mono (by decide)) GP.b .nil pass0) (by rfl)) pss_never pss_nil)))
      (pss_cons (ps_lock (ps_setDc (i := 3) (own := [("name", 4)]) (g := gName 4) (by rfl) nd rfl (by rfl) (sw_trueD rfl (by rfl) (by rfl) (by decide +kernel)) (pi_keys (pe_fld (pv 0) rfl)) (blkOk_by (own := [("name", 4)]) (N := ["self", "pairs", "pair", "rows", "name", "need"]) (sc := defScope sWithout) (by decide +kernel))
          (fun _ _ _ _ _ => pg_name (i := 4) nd rfl (Or.inr rfl)) (fun _ _ _ _ _ => pts_nil) (fun _ _ _ _ _ => pv 4)
          (fun _ _ _ _ _ => pe_lc (own := [("need", 5)]) (g := gName 5) (by rfl) nd (pi_tupK K rfl (pe_dget (hu_of hr) (pe_fldK K rfl (pv 0) rfl) (pv 4) (fun _ _ => rfl))) (blkOk_in (blkOk_by (own := [("need", 5)]) (N := ["self", "pairs", "pair", "rows", "name", "need"]) (sc := scInner) (by decide +kernel)))
            (fun _ _ _ _ _ => pg_name (i := 5) nd rfl (Or.inl rfl)) (fun _ _ _ _ _ => pts_one (pt_cmpR (r := rNotInT K) (op_notInT (u65 hr)) (pe_tup (pa_cons (pv 4) (pa_cons (pv 5) pa_nil))) (pv 1) rfl)) (fun _ _ _ _ _ => pv 5))))
      (pss_one (ps_ret (pe_make M I2 (hr.mono (by decide)) rfl gN bI .nil pass0 (pa_cons (pv 3) pa_nil))))), ?_⟩
    obtain ⟨dx, hx⟩ := N.ob
    have l5 := G.hi
    refine ⟨_, rfl, t, rfl, ⟨_, ht⟩, for_it (walk_tup (xs := rest)) (fun _ σ H' => ∃ v, σ = [some (.ref x), some (.ref t), v, none, none, none] ∧ Same H H') ⟨_, rfl, Same.refl _⟩ (fun i σ H' _ p => by obtain ⟨v, _, s1⟩ := p; exact sqT_same s1 ht) ?_ ?_⟩
    · rintro i y σ1 H1 H2 hi ⟨v, rfl, s1⟩ ⟨rfl, hy⟩
      obtain ⟨e, he, hdp⟩ := dpAll_get' (dpAll_same s1 hc) hy
      rw [List.getElem?_map] at he
      obtain ⟨p, hp, rfl⟩ : ∃ p, cut[i]? = some p ∧ e = prD p := by
        cases q : cut[i]? with
        | none => rw [q] at he; cases he
        | some p => rw [q] at he; cases he; exact ⟨p, rfl, rfl⟩
      have hpp := hsub p (List.mem_of_getElem? hp)
      refine ⟨_, rfl, _, rfl, x, dx, _, rfl, s1 _ _ hx, rows_no (by decide), x, d, ns, rw_, ad, rfl, N.same s1, G, fun H3 D us s3 hu hps => ?_⟩
      refine ⟨prD p, _, dp_same s3 hdp, dp_list hu hps, (lv_pr (k := 0) (G.pr hpp)).shaped (by decide), (Lv.list (k := 1) (lv_prs fun q hq => G.pr hq)).shaped (by decide), _, rfl, ?_⟩
      rw [any_pr, decide_eq_true hpp]
      exact iteF ⟨_, rfl, Same.trans s1 s3⟩
    rintro σ1 H1 ⟨v, rfl, s1⟩
    have N1 := N.same s1
    refine ⟨d, _, N1.dc, trivial, fun od => asg_of ?_⟩
    have NL := N1.lock od
    obtain ⟨dx', hx'⟩ := NL.ob
    refine ⟨_, rfl, x, _, _, _, _, rfl, hx', T.cls, T.nr, rows_look, d, od, rfl, .inl ⟨_, upd_same, fun D hD => ?_⟩⟩
    have wk : Walk (Itk d od (kvsOf ns ad)) ns.length (fun H => H d = some (.frz od (.dK (kvsOf ns ad)))) (fun i H x H' => H' = H ∧ ∃ k v, (kvsOf ns ad)[i]? = some (k, v) ∧ x = kV k) := by
      have := walk_keys (d := d) (o := od) (kvs := kvsOf ns ad)
      rwa [kvsOf_len] at this
    have tL : Dp K (upd H1 d (.frz od (.dK (kvsOf ns ad)))) (.ref t) (.tuple (cut.map prD)) := dp_lock N1.dc dk_nf (dp_same s1 (.tup ht hc))
    refine dcRows hD wk G.nd (by omega) (fun H' s' => s' _ _ upd_same) (fun H n a => SqL K H a ((rwCut rw_ cut n).map V.str)) (fun _ _ _ _ s' h => sqL_same s' h) (fun _ _ _ _ _ hk h => sqL_updD hk h) ?_ ?_
    · rintro i n y H2 H3 kt kf hn s2 ⟨rfl, kk, v', hk, rfl⟩ kT
      obtain ⟨n', hn2, rfl, rfl⟩ := kvsOf_get hk
      rw [hn] at hn2
      cases hn2
      have hn' := List.mem_of_getElem? hn
      have N3 := NL.same s2
      obtain ⟨dx3, hx3⟩ := N3.ob
      have rl := G.rlen hn'
      refine ⟨rfl, _, rfl, _, rfl, x, _, _, _, _, rfl, hx3, T.cls, T.nr, rows_look, _, rfl, d, _, rfl, dget_row N3.dc hn', ad n, rfl, ⟨_, N3.ro n hn'⟩, fun D2 hD2 => ?_⟩
      refine lc_data (K := K) (walk_tup (xs := (rw_ n).map V.str)) hD2 (fun j => (rw_ n)[j]?.bind fun m => if (!decide ((n, m) ∈ cut)) = true then some (PyData.str m) else none) (by rw [List.length_map]; omega) (fun H' s' => sqT_same s' (N3.ro n hn')) (fun j _ e he => ?_) ?_ ?_
      · cases hm : (rw_ n)[j]? with
        | none => rw [hm] at he; cases he
        | some m =>
          rw [hm] at he
          have he : (if (!decide ((n, m) ∈ cut)) = true then some (PyData.str m) else none) = some e := he
          split at he
          · cases he; rfl
          · cases he
      · rintro j y H4 H5 kt' kf' hj s4 _ ⟨rfl, hy⟩ kT' kN'
        obtain ⟨m, hm, rfl⟩ := at_str hy
        have hm' := List.mem_of_getElem? hm
        refine ⟨rfl, _, rfl, _, rfl, (by show 2 ≤ sizeLine; decide), fun q hq => ?_⟩
        have sq : Same H5 (upd H5 q (.tup [.str n, .str m])) := Same.new (Same.refl _) hq
        refine ⟨_, rfl, prD (n, m), cut.map prD, .tup (.inl (.inl upd_same)) (.cons (.str _) (.cons (.str _) .nil)), dp_same sq (dp_same s4 (dp_same s2 tL)), (lv_pr (k := 0) ⟨G.str hn', G.str (G.sub n hn' m hm')⟩).shaped (by decide), (Lv.tuple (k := 1) (lv_prs fun q hq => G.pr (hsub q hq))).shaped (by decide), _, rfl, ?_⟩
        rw [any_pr]
        cases e : decide ((n, m) ∈ cut) with
        | true => exact iteF (kN' _ (by rw [hm]; show (if (!decide ((n, m) ∈ cut)) = true then some (PyData.str m) else none) = none; rw [e]; rfl) sq)
        | false => exact iteT ⟨_, rfl, kT' _ _ _ (by rw [hm]; show (if (!decide ((n, m) ∈ cut)) = true then some (PyData.str m) else none) = _; rw [e]; rfl) sq (Dp.str m)⟩
      intro H4 us s4 hu hp
      rw [List.length_map, range_map, fm_filter] at hp
      obtain rfl := dpAll_strs' hp
      exact kT _ _ s4 (.inl (.inl hu))
    intro H2 ad' s2 hD2 hr2
    have hd2 := s2 _ _ upd_same
    have ne : D ≠ d := fun z => by rw [z, upd_same] at hD; cases hD
    refine ⟨hd2, ?_⟩
    have s3 : Same H (upd H2 d (.dK (kvsOf ns ad))) := Same.trans s1 (same_unlock N1.dc s2)
    have hD3 : (upd H2 d (.dK (kvsOf ns ad))) D = some (.dK (kvsOf ns ad')) := by rw [upd_ne ne]; exact hD2
    have hr3 : ∀ n, n ∈ ns → SqL K (upd H2 d (.dK (kvsOf ns ad))) (ad' n) ((rwCut rw_ cut n).map V.str) := fun n hn => sqL_unlock hd2 (hr2 n hn)
    generalize upd H2 d (.dK (kvsOf ns ad)) = H3 at s3 hD3 hr3 ⊢
    refine ⟨_, rfl, fun y dy hy hdy hne => ?_⟩
    have sm : Same H3 (upd (upd H3 dy (.own y)) y (.ins C dy [])) := made_same hy hdy hne
    refine ⟨y, D, dy, ns, rwCut rw_ cut, ad', false, rfl, upd_same, sm _ _ hD3, G.cut cut, fun n hn => sqL_same sm (hr3 n hn), fun H4 d4 ad4 hb N4 _ => ⟨rfl, ?_⟩⟩
    rw [hsrt] at N4
    exact k H4 y d4 ad4 (Same.trans s3 (made_but hy hdy hne hb)) N4
/-! ### is_cut -/
def spIsCut (K : PySem.W.Frag) (C : Addr) : Sp := fun vs H Q _ => ∃ (x d t : Addr) (ns : List Str) (rw : Str → List Str) (ad : Str → Addr) (rest : List V) (cut : List Pr), vs = [.ref x, .ref t] ∧ NetAt K C H x d ns rw ad ∧ Good ns rw ∧ srt ns = ns ∧
  SqT K H t rest ∧ DpAll K H rest (cut.map prD) ∧ cut.length ≤ 8 ∧ (∀ p, p ∈ cut → p ∈ pairsOf ns rw) ∧ ∀ H', Same H H' → Q (.bl (okCut ns rw cut)) H'
theorem scIsCut : FnScope ["self", "cut"] ["self", "cut"] (defScope sIsCut) := ⟨rfl, rfl, rfl, by decide +kernel, rfl, by decide +kernel, by decide +kernel⟩
theorem ok_isCut {f fW fO : Addr} {fd fdO : FuncData} (F : Fun K "is_cut" "Net.is_cut" sIsCut f fd) (T : NetK K C) (BW : BMeth K C "without" fW) (W4 : FnR P w K mg base CX0 4 fW (spWithoutV K C)) (GO : Gm K C "order" "Net.order" sOrder ["self"] fO fdO)
    (O2 : FnOk P w K mg base CX0 2 fO fdO ["self"] (spOrder K C)) : FnOk P w K mg base CX0 5 f fd ["self", "cut"] (spIsCut K C) := by
  refine F.ok scIsCut (fun vs H Q E h => ?_) (fun cdv A outer s H vs Q E hr h => ?_)
  · obtain ⟨x, d, t, ns, rw_, ad, rest, cut, rfl, _⟩ := h
    rfl
  · obtain ⟨x, d, t, ns, rw_, ad, rest, cut, rfl, N, G, hsrt, ht, hc, hlen, hsub, k⟩ := h
    refine ⟨_, pss_one (ps_ret (pe_cmp (pc_notN (pe_meth0 (C := C) (pe_methS (C := C) (pv 0) T.cls BW W4 hr pass0 (pv 1)) T.cls GO.mt O2 (hr.mono (by decide)) GO.b .nil pass0)) (by rfl))), ?_⟩
    obtain ⟨dx, hx⟩ := N.ob
    have rl : rest.length ≤ 8 := by
      have := dpAll_length hc
      rw [List.length_map] at this
      omega
    refine ⟨_, rfl, x, dx, _, rfl, hx, rows_no (by decide), fun q hq => ?_⟩
    have s1 : Same H (upd H q (.met fW x)) := Same.new (Same.refl _) hq
    refine ⟨_, rfl, t, rest, rfl, sqT_same s1 ht, upd_same, .ref x, rest, rfl, rl, fun p hp => ?_⟩
    have s2 : Same H (upd (upd H q (.met fW x)) p (.tup rest)) := Same.new s1 hp
    refine ⟨x, d, p, ns, rw_, ad, rest, cut, rfl, N.same s2, G, hsrt, .inl (.inl upd_same), dpAll_same s2 hc, hlen, hsub, fun H3 x3 d3 ad3 s3 N3 => ?_⟩
    obtain ⟨dx3, hx3⟩ := N3.ob
    refine ⟨x3, dx3, _, rfl, hx3, rows_no (by decide), x3, d3, ns, rwCut rw_ cut, ad3, rfl, N3, G.cut cut, fun H4 v s4 h1 h2 => ?_⟩
    have e : (!decide (v = V.non)) = okCut ns rw_ cut := by
      rcases Classical.em (Stuck ns (rwCut rw_ cut)) with st | st
      · rw [h1 st]
        simp [okCut, st]
      · obtain ⟨p, rfl⟩ := h2 st
        simp [okCut, st]
    show Q (.bl (!decide (v = V.non))) H4
    rw [e]
    exact k _ (Same.trans s2 (Same.trans s3 s4))
end
end Fm
set_option Elab.async false
set_option linter.all false
set_option maxRecDepth 100000
namespace Fm
open PySem L2 PySem.Spec
theorem risD_dp {K : PySem.W.Frag} {H : Hp} {y : V} {r : List Nat} (h : Dp K H y (risD r)) : ∃ b, y = .ref b ∧ SqT K H b ((r.map fun i => V.int (i : Nat))) := by
  cases h with
  | tup hs ha =>
    rename_i a vs
    refine ⟨a, rfl, ?_⟩
    have e : (r.map fun i => PyData.int ((i : Nat) : Int)) = (r.map fun i => ((i : Nat) : Int)).map PyData.int := by rw [List.map_map]; rfl
    rw [e] at ha
    obtain rfl := dpAll_ints' ha
    rw [List.map_map] at hs
    exact hs
theorem risD_mk {K : PySem.W.Frag} {H : Hp} {b : Addr} {r : List Nat} (h : SqT K H b ((r.map fun i => V.int (i : Nat)))) : Dp K H (.ref b) (risD r) := by
  have e : (r.map fun i => PyData.int ((i : Nat) : Int)) = (r.map fun i => ((i : Nat) : Int)).map PyData.int := by rw [List.map_map]; rfl
  have e2 : (r.map fun i => V.int ((i : Nat) : Int)) = (r.map fun i => ((i : Nat) : Int)).map V.int := by rw [List.map_map]; rfl
  unfold risD
  rw [e]
  rw [e2] at h
  exact .tup h dpAll_ints
section
variable {P : Program} {w : World} {K : PySem.W.Frag} {mg : Str → Option Value} {base : Heap}
/-! ### rising_tuples -/
def spRisM (K : PySem.W.Frag) (m : Nat) : Sp := fun vs H Q _ => ∃ (low size : Nat), vs = [.int (m : Nat), .int (low : Nat), .int (size : Nat)] ∧ m ≤ 8 ∧ low ≤ 9 ∧ size ≤ 8 ∧
  ∀ H' D us, Same H H' → H' D = some (.lst us) → DpAll K H' us ((rising m low size).map risD) → Q (.ref D) H'
theorem scRis : FnScope ["many", "low", "size", "found", "first", "rest"] ["many", "low", "size"] (defScope sRising) := ⟨rfl, rfl, rfl, by decide +kernel, rfl, by decide +kernel, by decide +kernel⟩
theorem pow8 {n : Nat} (h : n ≤ 8) : 2 ^ n ≤ 256 := Nat.le_trans (Nat.pow_le_pow_right (by decide) h) (by decide)
theorem ok_ris {f : Addr} {fd : FuncData} (G : Gf K mg "rising_tuples" sRising ["many", "low", "size"] f fd) (B : Bt mg) : ∀ m : Nat, FnOk P w K mg base CX0 (m + 1) f fd ["many", "low", "size"] (spRisM K m)
  | 0 => by
    refine G.F.ok scRis (fun vs H Q E h => ?_) (fun cdv A outer s H vs Q E hr h => ?_)
    · obtain ⟨low, size, rfl, _⟩ := h
      rfl
    · obtain ⟨low, size, rfl, hm8, hl, hs, k⟩ := h
      have nd := scRis.nd
      refine ⟨_, pss_cons (ps_if (pt_cmpR op_eq (pv 0) pe_int (nomark _)) (pss_one (ps_ret (pe_lst (pa_cons (pe_tup pa_nil) pa_nil)))) pss_nil) pss_never, ?_⟩
      refine ⟨_, rfl, rfl, _, rfl, iteT ⟨Nat.zero_le _, fun q hq => ⟨by show 1 ≤ sizeLine; decide, fun p hp => ?_⟩⟩⟩
      refine k _ p _ (Same.new (Same.new (Same.refl _) hq) hp) upd_same ?_
      show DpAll K _ _ [risD []]
      refine .cons (risD_mk (.inl (.inl ?_))) .nil
      rw [upd_ne (ne_of_none upd_same hp)]
      exact upd_same
  | m + 1 => by
    have ih := ok_ris G B m
    refine G.F.ok scRis (fun vs H Q E h => ?_) (fun cdv A outer s H vs Q E hr h => ?_)
    · obtain ⟨low, size, rfl, _⟩ := h
      rfl
    · obtain ⟨low, size, rfl, hm8, hl, hs, k⟩ := h
      have nd := scRis.nd
      refine ⟨_, pss_cons (ps_if (pt_cmpR op_eq (pv 0) pe_int (nomark _)) pss_never pss_nil)
        (pss_cons (ps_set (i := 3) nd rfl (Or.inl rfl) (pe_lst pa_nil))
        (pss_cons (ps_for PassesOwn.never rfl (pi_range2 (by rfl) B.range (pa_cons (pv 1) (pa_cons (pv 2) pa_nil))) (pg_name (i := 4) nd rfl (Or.inr rfl))
          (pss_one (ps_set (i := 3) nd rfl (Or.inl rfl) (pe_op op_cat (pv 3) (pe_lc (own := [("rest", 5)]) (g := gName 5) (by rfl) nd (pi_list (pe_call ih hr rfl G.g G.F.kp G.b .nil pass0 (pa_cons (pe_op op_sub (pv 0) pe_int) (pa_cons (pe_op op_add (pv 4) pe_int) (pa_cons (pv 2) pa_nil))))) (blkOk_by (own := [("rest", 5)]) (N := ["many", "low", "size", "found", "first", "rest"]) (sc := defScope sRising) (by decide +kernel))
            (fun _ _ _ _ _ => pg_name (i := 5) nd rfl (Or.inl rfl)) (fun _ _ _ _ _ => pts_nil) (fun _ _ _ _ _ => pe_op (r := rCatT K) op_catT (pe_tup (pa_cons (pv 4) pa_nil)) (pv 5)))))))
        (pss_one (ps_ret (pv 3))))), ?_⟩
      have sz : (100000 : Nat) < sizeLine := by decide
      refine ⟨_, rfl, rfl, _, rfl, ?_⟩
      rw [decide_eq_false (show ¬ (V.int ((m + 1 : Nat) : Int) = V.int 0) from fun z => by cases z)]
      refine iteF ⟨Nat.zero_le _, fun q hq => ?_⟩
      refine ⟨_, rfl, _, rfl, (low : Int), (size : Int), rfl, ⟨by omega, by omega, by omega, by omega⟩, ?_⟩
      have e : ((size : Int) - (low : Int)).toNat = size - low := by omega
      rw [e]
      refine for_it walk_range (fun i σ H' => ∃ L us v, σ = [some (.int ((m + 1 : Nat) : Int)), some (.int (low : Nat)), some (.int (size : Nat)), some (.ref L), v, none] ∧ Same H H' ∧ H' L = some (.lst us) ∧ DpAll K H' us (((List.range' low i).flatMap fun f => (rising m (f + 1) size).map (f :: ·)).map risD)) ⟨q, [], none, rfl, Same.new (Same.refl _) hq, upd_same, .nil⟩ (fun _ _ _ _ _ => trivial) ?_ ?_
      · rintro i y σ1 H1 H2 hi ⟨L, us, v, rfl, s1, hL, hp⟩ ⟨rfl, rfl⟩
        refine ⟨_, rfl, ?_⟩
        refine ⟨_, rfl, _, _, rfl, rfl, _, rfl, _, _, rfl, rfl, _, rfl, low + i + 1, size, ?_, by omega, by omega, hs, fun H3 D us3 s3 hD hp3 => ?_⟩
        · have e1 : (((m + 1 : Nat) : Int)) - 1 = (m : Int) := by omega
          have e2 : (low : Int) + (i : Int) + 1 = ((low + i + 1 : Nat) : Int) := by omega
          show [V.int (((m + 1 : Nat) : Int) - 1), V.int ((low : Int) + (i : Int) + 1), V.int (size : Int)] = _
          rw [e1, e2]
        refine ⟨D, rfl, ⟨_, .inl (.inl hD)⟩, fun D4 hD4 => ?_⟩
        have l3 := dpAll_length hp3
        rw [List.length_map] at l3
        have b3 := rising_len m (low + i + 1) size
        have b4 := pow8 (n := size - (low + i + 1)) (by omega)
        refine lc_data (K := K) (walk_list (xs := us3)) hD4 (fun j => (rising m (low + i + 1) size)[j]?.bind fun r => some (risD ((low + i) :: r))) (by omega) (fun H' s' => .inl (.inl (s' _ _ hD))) (fun j _ e he => ?_) ?_ ?_
        · cases hr' : (rising m (low + i + 1) size)[j]? with
          | none => rw [hr'] at he; cases he
          | some r => rw [hr'] at he; cases he; exact tless_ris _
        · rintro j y H4 H5 kt kf hj s4 _ ⟨rfl, hy⟩ kT _
          obtain ⟨e, he, hdp⟩ := dpAll_get' (dpAll_same s4 hp3) hy
          rw [List.getElem?_map] at he
          obtain ⟨r, hr', rfl⟩ : ∃ r, (rising m (low + i + 1) size)[j]? = some r ∧ e = risD r := by
            cases q : (rising m (low + i + 1) size)[j]? with
            | none => rw [q] at he; cases he
            | some p => rw [q] at he; cases he; exact ⟨p, rfl, rfl⟩
          obtain ⟨b, rfl, hb⟩ := risD_dp hdp
          have rl := rising_size (List.mem_of_getElem? hr')
          refine ⟨rfl, _, rfl, (by show 1 ≤ sizeLine; omega), fun t ht => ?_⟩
          have st : Same H5 (upd H5 t (.tup [.int ((low : Int) + (i : Int))])) := Same.new (Same.refl _) ht
          have e2 : V.int ((low : Int) + (i : Int)) = V.int ((low + i : Nat) : Int) := by congr 1
          refine ⟨_, rfl, t, b, _, _, rfl, rfl, .inl (.inl upd_same), sqT_same st hb, by simp, by rw [List.length_map, rl]; show 1 + m ≤ sizeLine; omega, fun hn => ?_, fun hn p hp => ?_⟩
          · have rn : r = [] := by simpa using hn
            refine kT _ _ _ (by rw [hr']; rfl) st (risD_mk (.inl (.inl ?_)))
            rw [rn]
            show upd H5 t (.tup [V.int ((low : Int) + (i : Int))]) t = some (.tup [V.int ((low + i : Nat) : Int)])
            rw [e2]
            exact upd_same
          · refine kT _ _ _ (by rw [hr']; rfl) (Same.new st hp) (risD_mk (.inl (.inl ?_)))
            show upd (upd H5 t (.tup [V.int ((low : Int) + (i : Int))])) p (.tup (V.int ((low : Int) + (i : Int)) :: r.map fun i => V.int (i : Nat))) p = some (.tup (V.int ((low + i : Nat) : Int) :: r.map fun i => V.int (i : Nat)))
            rw [e2]
            exact upd_same
        · intro H4 us4 s4 hu4 hp4
          have e3 : us3.length = (rising m (low + i + 1) size).length := l3
          rw [e3, range_map] at hp4
          have l4 := dpAll_length hp4
          have lm : ((rising m (low + i + 1) size).filterMap fun r => some (risD ((low + i) :: r))).length ≤ 256 := Nat.le_trans (List.length_filterMap_le _ _) (by omega)
          have hL4 := s4 _ _ (s3 _ _ hL)
          have l0 := dpAll_length hp
          rw [List.length_map] at l0
          have b0 : ((List.range' low i).flatMap fun f => (rising m (f + 1) size).map (f :: ·)).length ≤ 8 * 256 := by
            have := flatMap_len (l := List.range' low i) (f := fun f => (rising m (f + 1) size).map (f :: ·)) (c := 256) fun f _ => by
              rw [List.length_map]
              exact Nat.le_trans (rising_len m (f + 1) size) (pow8 (by omega))
            rw [List.length_range'] at this
            have : i * 256 ≤ 8 * 256 := Nat.mul_le_mul_right _ (by omega)
            omega
          refine ⟨L, D4, us, us4, rfl, rfl, hL4, hu4, by omega, fun p hp' => ?_⟩
          refine ⟨p, _, _, rfl, Same.new (Same.trans s1 (Same.trans s3 s4)) hp', upd_same, ?_⟩
          have sp := Same.new (o := HO.lst (us ++ us4)) (Same.refl H4) hp'
          rw [List.range'_1_concat, List.flatMap_append, List.map_append]
          refine dpAll_append (dpAll_same sp (dpAll_same s4 (dpAll_same s3 hp))) (dpAll_same sp ?_)
          have e5 : ([low + i].flatMap fun f => (rising m (f + 1) size).map (f :: ·)).map risD = (rising m (low + i + 1) size).filterMap fun r => some (risD ((low + i) :: r)) := by
            rw [List.flatMap_cons, List.flatMap_nil, List.append_nil, List.map_map, List.filterMap_eq_map']
            rfl
          rw [e5]
          exact hp4
      · rintro σ1 H1 ⟨L, us, v, rfl, s1, hL, hp⟩
        exact ⟨_, rfl, k _ L us s1 hL hp⟩
/-- all of them, of at most eight -/
theorem ok_risAll {f : Addr} {fd : FuncData} (G : Gf K mg "rising_tuples" sRising ["many", "low", "size"] f fd) (B : Bt mg) : FnOk P w K mg base CX0 9 f fd ["many", "low", "size"] (fun vs H Q E => ∃ m, m ≤ 8 ∧ spRisM K m vs H Q E) :=
  ⟨fun vs H Q E ⟨m, _, h⟩ => (ok_ris (P := P) (w := w) (base := base) G B m).len vs H Q E h, fun A outer s H args us vs Q E hr he hb hv ⟨m, hm, h⟩ => ((ok_ris G B m).mono (by omega)).run A outer s H args us vs Q E hr he hb hv h⟩
end
end Fm
set_option Elab.async false
set_option linter.all false
set_option maxRecDepth 100000
namespace Fm
open PySem L2 PySem.Spec
theorem leastFrom_eq {ok : List Pr → Bool} {ps : List Pr} : ∀ (n many i : Nat), (∀ j, many ≤ j → j < i → cutsOf ok ps j = []) → many ≤ i → i < many + n → cutsOf ok ps i ≠ [] → leastFrom ok ps n many = cutsOf ok ps i
  | 0, many, i, _, h1, h2, _ => by omega
  | n + 1, many, i, h, h1, h2, h3 => by
    unfold leastFrom
    rcases Nat.lt_or_ge many i with hl | hg
    · rw [if_pos (h many (Nat.le_refl _) hl)]
      exact leastFrom_eq n (many + 1) i (fun j hj => h j (by omega)) hl (by omega) h3
    · have e : many = i := by omega
      subst e
      rw [if_neg h3]
theorem leastFrom_nil {ok : List Pr → Bool} {ps : List Pr} : ∀ (n many : Nat), (∀ j, many ≤ j → j < many + n → cutsOf ok ps j = []) → leastFrom ok ps n many = []
  | 0, _, _ => rfl
  | n + 1, many, h => by
    unfold leastFrom
    rw [if_pos (h many (Nat.le_refl _) (by omega))]
    exact leastFrom_nil n (many + 1) fun j hj hj2 => h j (by omega) (by omega)
open Classical in
noncomputable def onR (rw : Str → List Str) (p : Pr) : Bool := decide (RT rw p.2 p.1)
theorem onR_iff {rw : Str → List Str} {p : Pr} : onR rw p = true ↔ RT rw p.2 p.1 := by unfold onR; exact @decide_eq_true_iff _ (Classical.propDecidable _)
theorem onRings_eq (ns : List Str) (rw : Str → List Str) : onRings ns rw = (pairsOf ns rw).filter (onR rw) := rfl
theorem prD_dp {K : PySem.W.Frag} {H : Hp} {y : V} {p : Pr} (h : Dp K H y (prD p)) : ∃ b, y = .ref b ∧ SqT K H b [.str p.1, .str p.2] := by
  cases h with
  | tup hs ha =>
    rename_i a vs
    cases ha with
    | cons h1 h2 =>
      cases h1
      cases h2 with
      | cons h3 h4 =>
        cases h3
        cases h4
        exact ⟨a, rfl, hs⟩
theorem at_map {α : Type} {f : α → PyData} {xs : List α} {i : Nat} {e : PyData} (h : (xs.map f)[i]? = some e) : ∃ x, xs[i]? = some x ∧ e = f x := by
  rw [List.getElem?_map] at h
  cases q : xs[i]? with
  | none => rw [q] at h; cases h
  | some p => rw [q] at h; cases h; exact ⟨p, rfl, rfl⟩
theorem bind_tless {α : Type} {xs : List α} {i : Nat} {f : α → Option PyData} (hf : ∀ x e, f x = some e → tless e = true) {e : PyData} (h : xs[i]?.bind f = some e) : tless e = true := by
  cases q : xs[i]? with
  | none => rw [q] at h; cases h
  | some x => rw [q] at h; exact hf x e h
section
variable {X : Cx}
theorem pg_tupK (K : PySem.W.Frag) {es : List Expr} {k : Nat} {pos : Pos} {t : TGs} {n : Nat} (hK : X.K = K) (hc : X.calm = true) (h : PGs X es t)
    (hn : (assignEach es X.env).length = n := by rfl) (hst : (assignEach es X.env).findIdx? (·.1) = none := by rfl) : PG X (.Tuple es k pos) (gTup K n t) := by
  subst hK; exact pg_tup hc h hn hst
end
section
variable {P : Program} {w : World} {K : PySem.W.Frag} {mg : Str → Option Value} {base : Heap} {C : Addr}
/-! ### least_cuts -/
def spCuts (K : PySem.W.Frag) (C CM : Addr) : Sp := fun vs H Q E => ∃ (x d : Addr) (ns : List Str) (rw : Str → List Str) (ad : Str → Addr), vs = [.ref x] ∧ NetAt K C H x d ns rw ad ∧ Good ns rw ∧ srt ns = ns ∧
  (8 < (onRings ns rw).length → ∀ H' dd, Same H H' → H' dd = some (.xd [(("most" : Str), V.int 8)]) → E (.ref CM) (some dd) H') ∧
  ((onRings ns rw).length ≤ 8 → ∀ H' D us, Same H H' → H' D = some (.lst us) → DpAll K H' us ((leastCuts (okCut ns rw) (onRings ns rw)).map cutD) → Q (.ref D) H')
abbrev nCuts : List Str := ["self", "pairs", "many", "found", "name", "need", "rising", "at", "cut"]
theorem scCuts : FnScope nCuts ["self"] (defScope sCuts) := ⟨rfl, rfl, rfl, by decide +kernel, rfl, by decide +kernel, by decide +kernel⟩
theorem ok_cuts {f fP fR fS fI CM fMI cc cda : Addr} {fd fdP fdR fdS fdI : FuncData} (F : Fun K "least_cuts" "Net.least_cuts" sCuts f fd) (T : NetK K C) (B : Bt mg) (MT : ManyTxt P K mg CM fMI cc cda)
    (GP : Gm K C "pairs" "Net.pairs" sPairs ["self"] fP fdP) (P1 : FnOk P w K mg base CX0 1 fP fdP ["self"] (spPairs K C)) (GR : Gm K C "reaches" "Net.reaches" sReaches ["self", "name"] fR fdR) (R2 : FnOk P w K mg base CX0 2 fR fdR ["self", "name"] (spReach K C))
    (GS : Gf K mg "rising_tuples" sRising ["many", "low", "size"] fS fdS) (GI : Gm K C "is_cut" "Net.is_cut" sIsCut ["self", "cut"] fI fdI) (I5 : FnOk P w K mg base CX0 5 fI fdI ["self", "cut"] (spIsCut K C)) :
    FnOk P w K mg base (L2.CX P w) 10 f fd ["self"] (spCuts K C CM) := by
  obtain ⟨tc, hmc⟩ := B.mostC
  have S9 : FnOk P w K mg base CX0 9 fS fdS ["many", "low", "size"] (fun vs H Q E => ∃ m, m ≤ 8 ∧ spRisM K m vs H Q E) := ok_risAll GS B
  refine F.okX scCuts (fun vs H Q E h => ?_) (fun cdv A outer s H vs Q E hr h => ?_)
  · obtain ⟨x, d, ns, rw_, ad, rfl, _⟩ := h
    rfl
  · obtain ⟨x, d, ns, rw_, ad, rfl, N, G, hsrt, kE, kQ⟩ := h
    have nd := scCuts.nd
    refine ⟨_, pss_cons (ps_set (i := 1) nd rfl (Or.inr rfl) (pe_lc (own := [("name", 4), ("need", 5)]) (g := gTup K 2 (gCons (gName 4) (gCons (gName 5) gNil))) (by rfl) nd (pi_list (pe_meth0 (C := C) (pv 0) T.cls GP.mt P1 (hr.mono (by decide)) GP.b .nil pass0)) (blkOk_by (own := [("name", 4), ("need", 5)]) (N := nCuts) (sc := defScope sCuts) (by decide +kernel))
          (fun _ _ _ _ _ => pg_tupK K rfl rfl (pgs_cons (pg_name (i := 4) nd rfl (Or.inl rfl)) (pgs_cons (pg_name (i := 5) nd rfl (Or.inl rfl)) pgs_nil)))
          (fun _ _ _ _ _ => pts_one (pt_cmpR (r := rIn K false) op_in_seq (pv 4) (pe_op op_cat (pe_lst (pa_cons (pv 5) pa_nil)) (pe_meth (C := C) (pv 0) T.cls GR.mt R2 (hr.mono (by decide)) GR.b .nil pass0 (pa_cons (pv 5) pa_nil))) (by rfl)))
          (fun _ _ _ _ _ => pe_tup (pa_cons (pv 4) (pa_cons (pv 5) pa_nil)))))
      (pss_cons (ps_if (pt_cmpR op_gt (pe_callB call_len_seq (by rfl) B.len PySem.boot_len (pa_cons (pv 1) pa_nil)) (pe_glob (v := .int 8) (by rfl) hmc ⟨_, rfl⟩) (nomark _))
          (pss_one (ps_raiseMany rfl MT hr (takes_of rfl rfl rfl rfl) (by exact (pa_cons (pe_glob (v := .int 8) (by rfl) hmc ⟨_, rfl⟩) pa_nil)))) pss_nil)
      (PSs.nox (pss_cons (ps_for PassesOwn.never rfl (pi_range1 (by rfl) B.range (pa_cons (pe_op op_add (pe_callB call_len_seq (by rfl) B.len PySem.boot_len (pa_cons (pv 1) pa_nil)) pe_int) pa_nil)) (pg_name (i := 2) nd rfl (Or.inl rfl))
          (pss_cons (ps_setLc (i := 3) (own := [("rising", 6)]) (g := gName 6) (by rfl) nd rfl (by rfl) (sw_true rfl (by rfl) (by rfl) (by decide +kernel)) (pi_list (pe_call S9 (hr.mono (by decide)) rfl GS.g GS.F.kp GS.b .nil pass0 (pa_cons (pv 2) (pa_cons pe_int (pa_cons (pe_callB call_len_seq (by rfl) B.len PySem.boot_len (pa_cons (pv 1) pa_nil)) pa_nil))))) (blkOk_by (own := [("rising", 6)]) (N := nCuts) (sc := defScope sCuts) (by decide +kernel))
            (fun _ _ _ _ _ => pg_name (i := 6) nd rfl (Or.inl rfl)) (fun _ _ _ _ _ => pts_nil)
            (fun _ _ _ _ _ => pe_tupleOfK K rfl (by rfl) B.tuple (pe_lc (own := [("at", 7)]) (g := gName 7) (by rfl) nd (pi_tupK K rfl (pv 6)) (blkOk_in (blkOk_by (own := [("at", 7)]) (N := nCuts) (by decide +kernel)))
              (fun _ _ _ _ _ => pg_name (i := 7) nd rfl (Or.inl rfl)) (fun _ _ _ _ _ => pts_nil) (fun _ _ _ _ _ => pe_ix (r := rIxL K) ix_list (pv 1) (pv 7) (fun _ _ => rfl)))))
          (pss_cons (ps_setLc (i := 3) (own := [("cut", 8)]) (g := gName 8) (by rfl) nd rfl (by rfl) (sw_true rfl (by rfl) (by rfl) (by decide +kernel)) (pi_list (pv 3)) (blkOk_by (own := [("cut", 8)]) (N := nCuts) (sc := defScope sCuts) (by decide +kernel))
            (fun _ _ _ _ _ => pg_name (i := 8) nd rfl (Or.inl rfl)) (fun _ _ _ _ _ => pts_one (pt_val (pe_meth (C := C) (pv 0) T.cls GI.mt I5 (hr.mono (by decide)) GI.b .nil pass0 (pa_cons (pv 8) pa_nil)))) (fun _ _ _ _ _ => pv 8))
          (pss_one (ps_if (pt_cmpR (op_neD hr.units) (pv 3) (pe_lst pa_nil) (nomark _)) (pss_one (ps_ret (pv 3))) pss_nil)))))
        (pss_one (ps_ret (pe_lst pa_nil)))))), ?_⟩
    obtain ⟨dx, hx⟩ := N.ob
    have l5 := G.hi
    have sz : (100000 : Nat) < sizeLine := by decide
    have pl := G.plen (l := ns) (fun _ h => h) l5
    -- the pairs on rings
    refine ⟨_, rfl, x, dx, _, rfl, hx, rows_no (by decide), x, d, ns, rw_, ad, rfl, N, G, fun H0 D0 us0 s0 hD0 hp0 => ?_⟩
    have e0 := dpAll_length hp0
    rw [List.length_map] at e0
    refine ⟨D0, rfl, ⟨_, .inl (.inl hD0)⟩, fun D hD => ?_⟩
    refine lc_data (K := K) (walk_list (xs := us0)) hD (fun i => (pairsOf ns rw_)[i]?.bind fun p => if onR rw_ p = true then some (prD p) else none) (by omega) (fun H' s' => .inl (.inl (s' _ _ hD0))) (fun i _ e he => bind_tless (fun p e h => ?_) he) ?_ ?_
    · split at h
      · cases h; exact tless_pr p
      · cases h
    · rintro i y H1 H2 kt kf hi s1 _ ⟨rfl, hy⟩ kT kN
      obtain ⟨e, he, hdp⟩ := dpAll_get' (dpAll_same s1 hp0) hy
      obtain ⟨p, hp, rfl⟩ := at_map he
      obtain ⟨b, rfl, hb⟩ := prD_dp hdp
      have hpm := List.mem_of_getElem? hp
      obtain ⟨n, hn, hq⟩ := List.mem_flatMap.mp hpm
      obtain ⟨m, hm, rfl⟩ := List.mem_map.mp hq
      have hm' := G.sub n hn m hm
      have s2 : Same H H2 := Same.trans s0 s1
      refine ⟨b, _, rfl, hb, rfl, _, _, rfl, _, _, rfl, rfl, rfl, ?_⟩
      refine ⟨_, rfl, _, rfl, (by show 1 ≤ sizeLine; omega), fun q hq => ?_⟩
      have sq : Same H2 (upd H2 q (.lst [.str m])) := Same.new (Same.refl _) hq
      refine ⟨_, rfl, x, dx, _, rfl, sq _ _ (s2 _ _ hx), rows_no (by decide), _, rfl, x, d, m, ns, rw_, ad, rfl, N.same (Same.trans s2 sq), G, hm', fun H3 p3 xs s3 h3 hxs hl3 => ?_⟩
      refine ⟨q, p3, _, _, rfl, rfl, s3 _ _ upd_same, h3, by rw [List.length_map]; show 1 + xs.length ≤ sizeLine; omega, fun r hr => ?_⟩
      have s4 : Same H2 (upd H3 r (.lst ([V.str m] ++ xs.map V.str))) := Same.new (Same.trans sq s3) hr
      refine ⟨r, _, rfl, .inl (.inl (.inl upd_same)), rfl, flat_strs (m :: xs), _, rfl, ?_⟩
      rw [if_neg (by decide)]
      have ein : inV (.str n) ([V.str m] ++ xs.map V.str) = onR rw_ (n, m) := by
        show inV (.str n) ((m :: xs).map V.str) = _
        rw [inV_str]
        by_cases h : n ∈ m :: xs
        · rw [decide_eq_true h]
          have : RT rw_ m n := by
            rcases List.mem_cons.mp h with e | h
            · exact .inl e
            · exact .inr ((hxs n).mp h)
          exact (onR_iff.mpr this).symm
        · rw [decide_eq_false h]
          have : ¬ RT rw_ m n := fun z => h (by
            rcases z with e | t
            · exact List.mem_cons.mpr (.inl e)
            · exact List.mem_cons_of_mem _ ((hxs n).mpr t))
          cases er : onR rw_ (n, m) with
          | true => exact (this (onR_iff.mp er)).elim
          | false => rfl
      rw [ein]
      cases er : onR rw_ (n, m) with
      | true =>
        refine iteT ⟨_, rfl, _, rfl, (by show 2 ≤ sizeLine; omega), fun t ht => ?_⟩
        refine kT _ _ (prD (n, m)) ?_ (Same.new s4 ht) (.tup (.inl (.inl upd_same)) (.cons (.str _) (.cons (.str _) .nil)))
        rw [hp]
        show (if onR rw_ (n, m) = true then some (prD (n, m)) else none) = _
        rw [er]
        rfl
      | false =>
        refine iteF (kN _ ?_ s4)
        rw [hp]
        show (if onR rw_ (n, m) = true then some (prD (n, m)) else none) = _
        rw [er]
        rfl
    intro H1 us1 s1 hu1 hp1
    rw [e0, range_map, fm_filter, ← onRings_eq] at hp1
    have sub : ∀ p, p ∈ onRings ns rw_ → p ∈ pairsOf ns rw_ := fun p hp => (List.mem_filter.mp hp).1
    have ol : (onRings ns rw_).length ≤ 25 := Nat.le_trans (List.length_filter_le _ _) pl
    generalize hP : onRings ns rw_ = ps at *
    have e1 := dpAll_length hp1
    rw [List.length_map] at e1
    have sA : Same H H1 := Same.trans s0 s1
    -- more than eight
    refine ⟨_, rfl, D, us1, rfl, .inl (.inl (.inl hu1)), _, _, rfl, rfl, _, rfl, ?_⟩
    rw [e1]
    refine ite2 (fun h => ?_) (fun h => ?_)
    · exact ⟨_, rfl, fun dd hdd => kE (by have := of_decide_eq_true h; omega) _ dd (Same.new sA hdd) upd_same⟩
    have le8 : ps.length ≤ 8 := by
      have : ¬ ((8 : Int) < (ps.length : Int)) := fun z => h (decide_eq_true z)
      omega
    refine ⟨_, rfl, D, us1, rfl, .inl (.inl (.inl hu1)), _, _, rfl, rfl, (ps.length + 1 : Nat), ?_, by omega, by omega, ?_⟩
    · rw [e1]; rfl
    have en : (((ps.length + 1 : Nat) : Int)).toNat = ps.length + 1 := by omega
    rw [en]
    refine for_it walk_range (fun i σ H' => ∃ v2 v3, σ = [some (.ref x), some (.ref D), v2, v3, none, none, none, none, none] ∧ Same H1 H' ∧ ∀ j, j < i → cutsOf (okCut ns rw_) ps j = []) ⟨none, none, rfl, Same.refl _, fun j hj => absurd hj (Nat.not_lt_zero _)⟩ (fun _ _ _ _ _ => trivial) ?_ ?_
    · rintro i y σ1 H2 H3 hi ⟨v2, v3, rfl, s3, hno⟩ ⟨rfl, rfl⟩
      refine asg_of ?_
      have hu3 := s3 _ _ hu1
      refine ⟨_, rfl, _, rfl, D, us1, rfl, .inl (.inl (.inl hu3)), i, by omega, 0, ps.length, ?_, by omega, by omega, le8, fun H4 D4 us4 s4 hD4 hp4 => ?_⟩
      · show [V.int (0 + (i : Int)), V.int 0, V.int (us1.length : Nat)] = _
        rw [e1, Int.zero_add]
        rfl
      have e4 := dpAll_length hp4
      rw [List.length_map] at e4
      have b4 := rising_len i 0 ps.length
      have b5 := pow8 (n := ps.length - 0) (by omega)
      have e5 : us4.length = (rising i 0 ps.length).length := e4
      -- the cuts of so many
      refine ⟨D4, rfl, ⟨_, .inl (.inl hD4)⟩, fun D5 hD5 => ?_⟩
      refine lc_data (K := K) (walk_list (xs := us4)) hD5 (fun j => (rising i 0 ps.length)[j]?.bind fun r => some (cutD (pick ps r))) (by omega) (fun H' s' => .inl (.inl (s' _ _ hD4))) (fun j _ e he => bind_tless (fun r e h => by cases h; exact tless_cut _) he) ?_ ?_
      · rintro j y H5 H6 kt kf hj s5 _ ⟨rfl, hy⟩ kT _
        obtain ⟨e, he, hdp⟩ := dpAll_get' (dpAll_same s5 hp4) hy
        obtain ⟨r, hr', rfl⟩ := at_map he
        obtain ⟨b, rfl, hb⟩ := risD_dp hdp
        have hrm := List.mem_of_getElem? hr'
        have rl := rising_size hrm
        have rm := rising_mem hrm
        have hu6 := s5 _ _ (s4 _ _ hu3)
        have hp6 := dpAll_same s5 (dpAll_same s4 (dpAll_same s3 hp1))
        refine ⟨rfl, _, rfl, b, rfl, ⟨_, hb⟩, fun D6 hD6 => ?_⟩
        refine lc_data (K := K) (walk_tup (xs := r.map fun i => V.int (i : Nat))) hD6 (fun j => r[j]?.bind fun a => (ps[a]?).map prD) (by rw [List.length_map]; omega) (fun H' s' => sqT_same s' hb) (fun j _ e he => bind_tless (fun a e h => ?_) he) ?_ ?_
        · cases q : ps[a]? with
          | none => rw [q] at h; cases h
          | some p => rw [q] at h; cases h; exact tless_pr p
        · rintro l z H7 H8 kt' kf' hl s7 _ ⟨rfl, hz⟩ kT' _
          rw [List.getElem?_map] at hz
          obtain ⟨a, ha, rfl⟩ : ∃ a, r[l]? = some a ∧ z = V.int (a : Nat) := by
            cases q : r[l]? with
            | none => rw [q] at hz; cases hz
            | some a => rw [q] at hz; cases hz; exact ⟨a, rfl, rfl⟩
          have al := rm a (List.mem_of_getElem? ha)
          obtain ⟨p, hp⟩ : ∃ p, ps[a]? = some p := ⟨_, List.getElem?_eq_getElem al⟩
          obtain ⟨v, hv, hdv⟩ := dpAll_get (dpAll_same s7 hp6) (show (ps.map prD)[a]? = some (prD p) by rw [List.getElem?_map, hp]; rfl)
          refine ⟨rfl, _, rfl, _, rfl, D, us1, (a : Int), v, rfl, rfl, .inl (.inl (s7 _ _ hu6)), atI_nat hv, kT' _ _ (prD p) ?_ (Same.refl _) hdv⟩
          rw [ha]
          show (ps[a]?).map prD = _
          rw [hp]
          rfl
        intro H7 us7 s7 hu7 hp7
        rw [List.length_map, range_map] at hp7
        have ep : (r.filterMap fun a => (ps[a]?).map prD) = (pick ps r).map prD := by unfold pick; rw [List.map_filterMap]
        rw [ep] at hp7
        refine .inl ⟨D6, us7, rfl, .inl (.inl hu7), fun q hq => kT _ _ (cutD (pick ps r)) (by rw [hr']; rfl) (Same.new s7 hq) (.tup (.inl (.inl upd_same)) (dpAll_same (Same.new (Same.refl _) hq) hp7))⟩
      intro H5 us5 s5 hu5 hp5
      rw [e5, range_map, List.filterMap_eq_map'] at hp5
      have em : ((rising i 0 ps.length).map fun r => cutD (pick ps r)) = ((rising i 0 ps.length).map (pick ps)).map cutD := by rw [List.map_map]; rfl
      rw [em] at hp5
      generalize hL : (rising i 0 ps.length).map (pick ps) = L at *
      have Lp : ∀ c, c ∈ L → c.length ≤ 8 ∧ ∀ p, p ∈ c → p ∈ pairsOf ns rw_ := fun c hc => by
        rw [← hL] at hc
        obtain ⟨r, hr', rfl⟩ := List.mem_map.mp hc
        refine ⟨Nat.le_trans (List.length_filterMap_le _ _) (by rw [rising_size hr']; omega), fun p hp => ?_⟩
        obtain ⟨a, _, ha⟩ := List.mem_filterMap.mp hp
        exact sub p (List.mem_of_getElem? ha)
      have el := dpAll_length hp5
      rw [List.length_map] at el
      have Ll : L.length ≤ 256 := by rw [← hL, List.length_map]; omega
      have sB : Same H H5 := Same.trans sA (Same.trans s3 (Same.trans s4 s5))
      refine ⟨_, rfl, D5, rfl, ⟨_, .inl (.inl hu5)⟩, fun D8 hD8 => ?_⟩
      refine lc_data (K := K) (walk_list (xs := us5)) hD8 (fun j => L[j]?.bind fun c => if okCut ns rw_ c = true then some (cutD c) else none) (by omega) (fun H' s' => .inl (.inl (s' _ _ hu5))) (fun j _ e he => bind_tless (fun c e h => ?_) he) ?_ ?_
      · split at h
        · cases h; exact tless_cut c
        · cases h
      · rintro j y H8 H9 kt kf hj s8 _ ⟨rfl, hy⟩ kT kN
        have hp8 := dpAll_same s8 hp5
        obtain ⟨e, he, hdp⟩ := dpAll_get' hp8 hy
        obtain ⟨c, hc, rfl⟩ := at_map he
        obtain ⟨lc, cs⟩ := Lp c (List.mem_of_getElem? hc)
        have hdp0 := hdp
        cases hdp with
        | tup hs ha =>
          rename_i b vs
          refine ⟨rfl, _, rfl, x, dx, _, rfl, s8 _ _ (sB _ _ hx), rows_no (by decide), _, rfl, x, d, b, ns, rw_, ad, vs, c, rfl, N.same (Same.trans sB s8), G, hsrt, hs, ha, lc, cs, fun H10 s10 => ⟨_, rfl, ?_⟩⟩
          cases eo : okCut ns rw_ c with
          | true =>
            refine iteT ⟨_, rfl, kT _ _ (cutD c) ?_ s10 (dp_same s10 hdp0)⟩
            rw [hc]
            show (if okCut ns rw_ c = true then some (cutD c) else none) = _
            rw [eo]
            rfl
          | false =>
            refine iteF (kN _ ?_ s10)
            rw [hc]
            show (if okCut ns rw_ c = true then some (cutD c) else none) = _
            rw [eo]
            rfl
      intro H8 us8 s8 hu8 hp8
      rw [el, range_map, fm_filter] at hp8
      have ec : L.filter (okCut ns rw_) = cutsOf (okCut ns rw_) ps i := by rw [← hL]; rfl
      rw [ec] at hp8
      have cp : ∀ c, c ∈ cutsOf (okCut ns rw_) ps i → ∀ p, p ∈ c → PrOk p := fun c hc p hp => by
        rw [← ec] at hc
        exact G.pr ((Lp c (List.mem_filter.mp hc).1).2 p hp)
      refine ⟨_, rfl, Nat.zero_le _, fun q hq => ?_⟩
      have sq : Same H8 (upd H8 q (.lst [])) := Same.new (Same.refl _) hq
      refine ⟨_, _, dp_list (sq _ _ hu8) (dpAll_same sq hp8), dp_nil upd_same, (Lv.list (k := 2) (lv_cuts cp)).shaped (by decide), shaped_nil, _, rfl, ?_⟩
      rw [eqv_empty]
      have sC : Same H1 (upd H8 q (.lst [])) := Same.trans s3 (Same.trans s4 (Same.trans s5 (Same.trans s8 sq)))
      cases ek : cutsOf (okCut ns rw_) ps i with
      | nil =>
        refine iteF ⟨_, _, rfl, sC, fun j hj => ?_⟩
        rcases Nat.lt_or_ge j i with h1 | h1
        · exact hno j h1
        · have : j = i := by omega
          subst this
          exact ek
      | cons c r =>
        refine iteT ⟨_, rfl, kQ le8 _ D8 us8 (Same.trans sA sC) (sq _ _ hu8) ?_⟩
        have eq : leastCuts (okCut ns rw_) ps = cutsOf (okCut ns rw_) ps i := leastFrom_eq (ps.length + 1) 0 i (fun j _ hj => hno j hj) (Nat.zero_le _) (by omega) (by rw [ek]; exact List.cons_ne_nil _ _)
        rw [eq]
        exact dpAll_same sq hp8
    · rintro σ1 H2 ⟨v2, v3, rfl, s3, hno⟩
      refine ⟨Nat.zero_le _, fun q hq => ?_⟩
      have eq : leastCuts (okCut ns rw_) ps = [] := leastFrom_nil (ps.length + 1) 0 fun j _ hj => hno j (by omega)
      refine kQ le8 _ q [] (Same.trans sA (Same.new s3 hq)) upd_same ?_
      rw [eq]
      exact .nil
end
end Fm
set_option Elab.async false
set_option linter.all false
set_option maxRecDepth 100000
namespace Fm
open PySem L2 PySem.Spec
theorem merge_aux {ad : Str → Addr} : ∀ (bs as : List Str), (as ++ bs).Nodup → (kvsOf bs ad).foldl (fun acc kv => putK acc kv.1 kv.2) (kvsOf as ad) = kvsOf (as ++ bs) ad
  | [], as, _ => by rw [List.append_nil]; rfl
  | b :: bs, as, h => by
    show (kvsOf bs ad).foldl _ (putK (kvsOf as ad) (Sum.inr b) (V.ref (ad b))) = _
    have nin : ¬ b ∈ as := fun z => by
      have := (List.nodup_append.mp h).2.2 b z b List.mem_cons_self
      exact this rfl
    rw [kvsOf_snoc nin, kvsOf_congr (ad' := ad) (fun n _ => by
      show (if n = b then ad b else ad n) = ad n
      split
      · rename_i e; rw [e]
      · rfl)]
    have := merge_aux (ad := ad) bs (as ++ [b]) (by rw [List.append_assoc]; exact h)
    rw [this, List.append_assoc]
    rfl
theorem merge_kvs {ks : List Str} {ad : Str → Addr} (h : ks.Nodup) : mergeK [] (kvsOf ks ad) = kvsOf ks ad := merge_aux ks [] h
theorem eqv_empty_str (xs : List Str) : PyData.eqv (.list (xs.map PyData.str)) (.list []) = xs.isEmpty := by
  rw [eqv_empty]
  cases xs <;> rfl
section
variable {P : Program} {w : World} {K : PySem.W.Frag} {mg : Str → Option Value} {base : Heap}
/-! ### _law_has_ring -/
def spRing (K : PySem.W.Frag) : Sp := fun vs H Q _ => ∃ (e : Addr) (ns : List Str) (rw : Str → List Str) (ad : Str → Addr), vs = [.ref e] ∧ H e = some (.dK (kvsOf ns ad)) ∧ RowsT K H ns rw ad ∧ Good ns rw ∧
  ∀ H' b, Same H H' → (b = true ↔ Stuck ns rw) → Q (.bl b) H'
theorem scRing : FnScope ["needs", "left", "ready", "name", "need"] ["needs"] (defScope sHasRing) := ⟨rfl, rfl, rfl, by decide +kernel, rfl, by decide +kernel, by decide +kernel⟩
theorem ok_ring {f : Addr} {fd : FuncData} (F : Fun K "_law_has_ring" "_law_has_ring" sHasRing f fd) (B : Bt mg) : FnOk P w K mg base CX0 1 f fd ["needs"] (spRing K) := by
  refine F.ok scRing (fun vs H Q E h => ?_) (fun cdv A outer s H vs Q E hr h => ?_)
  · obtain ⟨e, ns, rw_, ad, rfl, _⟩ := h
    rfl
  · obtain ⟨e, ns, rw_, ad, rfl, he, R, G, k⟩ := h
    have nd := scRing.nd
    refine ⟨_, pss_cons (ps_set (i := 1) nd rfl (Or.inr rfl) (pe_callTy call_dictD (by rfl) B.dict boot_tdict (pa_cons (pv 0) pa_nil)))
      (pss_cons (ps_while PassesOwn.never (pt_cmpR (op_neEmpty hr.units0) (pv 1) pe_dnewK (nomark _))
        (pss_cons (ps_set (i := 2) nd rfl (Or.inr rfl) (pe_lock (pe_lc (own := [("name", 3)]) (g := gName 3) (by rfl) nd (pi_keys (pv 1)) (blkOk_by (own := [("name", 3)]) (N := ["needs", "left", "ready", "name", "need"]) (sc := defScope sHasRing) (by decide +kernel))
            (fun _ _ _ _ _ => pg_name (i := 3) nd rfl (Or.inl rfl))
            (fun _ _ _ _ _ => pts_one (pt_cmpR (r := rEqD K) (op_eqD hr.units) (pe_lc (own := [("need", 4)]) (g := gName 4) (by rfl) nd (pi_tupK K rfl (pe_dget (hu_of hr) (pv 1) (pv 3) (fun _ _ => rfl))) (blkOk_in (blkOk_by (own := [("need", 4)]) (N := ["needs", "left", "ready", "name", "need"]) (by decide +kernel)))
              (fun _ _ _ _ _ => pg_name (i := 4) nd rfl (Or.inl rfl)) (fun _ _ _ _ _ => pts_one (pt_cmp (pc_din (hu_of hr) (pv 4) (pv 1)))) (fun _ _ _ _ _ => pv 4)) (pe_lst pa_nil) (by rfl)))
            (fun _ _ _ _ _ => pv 3))))
        (pss_cons (ps_if (pt_cmpR (op_eqD hr.units) (pv 2) (pe_lst pa_nil) (nomark _)) (pss_one (ps_ret pe_bl)) pss_nil)
        (pss_one (ps_set (i := 1) nd rfl (Or.inr rfl) (pe_callTy (call_dictP rfl) (by rfl) B.dict boot_tdict (pa_cons (pe_lock (pe_lc (own := [("name", 3)]) (g := gName 3) (by rfl) nd (pi_keys (pv 1)) (blkOk_by (own := [("name", 3)]) (N := ["needs", "left", "ready", "name", "need"]) (sc := defScope sHasRing) (by decide +kernel))
            (fun _ _ _ _ _ => pg_name (i := 3) nd rfl (Or.inl rfl)) (fun _ _ _ _ _ => pts_one (pt_cmpR (r := rIn K true) op_notIn_seq (pv 3) (pv 2) rfl))
            (fun _ _ _ _ _ => pe_tup (pa_cons (pv 3) (pa_cons (pe_dget (hu_of hr) (pv 1) (pv 3) (fun _ _ => rfl)) pa_nil))))) pa_nil)))))))
      (pss_one (ps_ret pe_bl))), ?_⟩
    have l5 := G.hi
    have sz : (100000 : Nat) < sizeLine := by decide
    refine ⟨_, rfl, e, _, rfl, .inl he, fun L0 hL0 => ?_⟩
    refine ⟨fun m σ H' => ∃ L ks v2, m = ks.length ∧ σ = [some (.ref e), some (.ref L), v2, none, none] ∧ Same H H' ∧ H' L = some (.dK (kvsOf ks ad)) ∧ RingInv ns rw_ ks, ⟨_, L0, ns, none, rfl, rfl, Same.new (Same.refl _) hL0, upd_same, RingInv.start G.nd⟩, ?_⟩
    rintro m σ H1 ⟨L, ks, v2, rfl, rfl, s1, hL1, I⟩
    refine ⟨_, rfl, fun p hp => ?_⟩
    have sp : Same H1 (upd H1 p (.dK [])) := Same.new (Same.refl _) hp
    refine ⟨L, p, _, rfl, rfl, sp _ _ hL1, upd_same, _, rfl, ?_⟩
    have s2 : Same H (upd H1 p (.dK [])) := Same.trans s1 sp
    have hL2 := sp _ _ hL1
    generalize upd H1 p (.dK []) = H2 at s2 hL2 ⊢
    by_cases hk : ks = []
    · subst hk
      exact iteF (k _ _ s2 ⟨fun z => Bool.noConfusion z, fun st => (I.done st).elim⟩)
    have hne : (!decide (kvsOf ks ad = [])) = true := by
      rw [decide_eq_false]
      · rfl
      · intro z
        refine hk ?_
        have := congrArg List.length z
        rw [kvsOf_len] at this
        exact List.length_eq_zero_iff.mp this
    rw [hne]
    have kl : ks.length ≤ 5 := Nat.le_trans (I.nd.length_le_of_subset fun x hx => I.sub x hx) l5
    refine iteT ⟨fun σ H' => ∃ L' ks' v2, ks'.length < ks.length ∧ σ = [some (.ref e), some (.ref L'), v2, none, none] ∧ Same H H' ∧ H' L' = some (.dK (kvsOf ks' ad)) ∧ RingInv ns rw_ ks', fun σ' H' h => ?_, ?_⟩
    · obtain ⟨L', ks', v, h1, h2⟩ := h
      exact ⟨_, h1, L', ks', v, rfl, h2⟩
    refine asg_of ?_
    refine ⟨L, _, hL2, trivial, fun od => ?_⟩
    have RL : RowsT K (upd H2 L (.frz od (.dK (kvsOf ks ad)))) ns rw_ ad := fun n hn => sqT_lock hL2 dk_nf (sqT_same s2 (R n hn))
    refine lcN (K := K) od hL2 (by omega) (fun R q => ⟨_, rfl, q⟩) (fun n => if ((rw_ n).filter fun m => decide (m ∈ ks)).isEmpty = true then some (.str n) else none) (fun n hn e he => ?_) ?_ ?_
    · split at he
      · cases he; rfl
      · cases he
    · rintro i n H3 kt kf hn s3 kT kN
      have hn1 := List.mem_of_getElem? hn
      have hn2 := I.sub n hn1
      have rl := G.rlen hn2
      have hL3 := s3 _ _ upd_same
      have R3 := RL.same s3
      refine ⟨rfl, _, rfl, _, rfl, L, _, rfl, dget_row (.inr ⟨od, hL3⟩) hn1, ad n, rfl, ⟨_, R3 n hn2⟩, fun D2 hD2 => ?_⟩
      refine lc_data (K := K) (walk_tup (xs := (rw_ n).map V.str)) hD2 (fun j => (rw_ n)[j]?.bind fun m => if decide (m ∈ ks) = true then some (PyData.str m) else none) (by rw [List.length_map]; omega) (fun H' s' => sqT_same s' (R3 n hn2)) (fun j _ e he => bind_tless (fun m e h => ?_) he) ?_ ?_
      · split at h
        · cases h; rfl
        · cases h
      · rintro j y H4 H5 kt' kf' hj s4 _ ⟨rfl, hy⟩ kT' kN'
        obtain ⟨m, hm, rfl⟩ := at_str hy
        refine ⟨rfl, _, rfl, _, rfl, L, valV (kvsOf ks ad) (Sum.inr m : Key), rfl, .inl ⟨_, Sum.inr m, .inr ⟨od, s4 _ _ hL3⟩, rfl, rfl⟩, _, rfl, ?_⟩
        rw [kvsOf_has]
        cases e1 : decide (m ∈ ks) with
        | true => exact iteT ⟨_, rfl, kT' _ _ _ (by rw [hm]; show (if decide (m ∈ ks) = true then some (PyData.str m) else none) = _; rw [e1]; rfl) (Same.refl _) (Dp.str m)⟩
        | false => exact iteF (kN' _ (by rw [hm]; show (if decide (m ∈ ks) = true then some (PyData.str m) else none) = none; rw [e1]; rfl) (Same.refl _))
      intro H4 us s4 hu hp
      rw [List.length_map, range_map, fm_filter] at hp
      refine ⟨Nat.zero_le _, fun q hq => ?_⟩
      have sq : Same H4 (upd H4 q (.lst [])) := Same.new (Same.refl _) hq
      refine ⟨_, _, dp_list (sq _ _ hu) (dpAll_same sq hp), dp_nil upd_same, (Lv.list (k := 0) (lv_strs fun y hy => G.str (G.sub n hn2 y (List.mem_filter.mp hy).1))).shaped (by decide), shaped_nil, _, rfl, ?_⟩
      rw [eqv_empty_str]
      cases e2 : ((rw_ n).filter fun m => decide (m ∈ ks)).isEmpty with
      | true => exact iteT ⟨_, rfl, kT _ _ _ (by rw [if_pos e2]) (Same.trans s4 sq) (Dp.str n)⟩
      | false => exact iteF (kN _ (by rw [if_neg (by rw [e2]; decide)]) (Same.trans s4 sq))
    rintro D H0 us hD hz s3 hu hp
    refine ⟨hz, ?_⟩
    generalize upd H0 L (.dK (kvsOf ks ad)) = H3 at s3 hu hp ⊢
    rw [fm_filter] at hp
    obtain rfl := dpAll_strs' hp
    refine ⟨_, rfl, Nat.zero_le _, fun q hq => ?_⟩
    have sq : Same H3 (upd H3 q (.lst [])) := Same.new (Same.refl _) hq
    refine ⟨_, _, dp_list (sq _ _ hu) (dpAll_same sq hp), dp_nil upd_same, (Lv.list (k := 0) (lv_strs fun y hy => G.str (I.sub y (List.mem_filter.mp hy).1))).shaped (by decide), shaped_nil, _, rfl, ?_⟩
    rw [eqv_empty_str]
    have s4 : Same H (upd H3 q (.lst [])) := Same.trans s2 (Same.trans s3 sq)
    have hL4 := sq _ _ (s3 _ _ hL2)
    have hu4 := sq _ _ hu
    generalize upd H3 q (.lst []) = H4 at s4 hL4 hu4 ⊢
    have rdy : ∀ n, n ∈ ks.filter (fun n => ((rw_ n).filter fun m => decide (m ∈ ks)).isEmpty) → ∀ m, m ∈ rw_ n → ¬ m ∈ ks := fun n hn m hm hmk => by
      have h2 := List.isEmpty_iff.mp (List.mem_filter.mp hn).2
      have := List.filter_eq_nil_iff.mp h2 m hm
      exact this (decide_eq_true hmk)
    generalize hrd : ks.filter (fun n => ((rw_ n).filter fun m => decide (m ∈ ks)).isEmpty) = rd at *
    cases er : rd.isEmpty with
    | true =>
      have rn := List.isEmpty_iff.mp er
      refine iteT (k _ _ s4 ⟨fun _ => I.stuck hk fun n hn => ?_, fun _ => rfl⟩)
      rw [rn] at hrd
      have h1 := List.filter_eq_nil_iff.mp hrd n hn
      cases e2 : (rw_ n).filter (fun m => decide (m ∈ ks)) with
      | nil => rw [e2] at h1; exact (h1 rfl).elim
      | cons y r =>
        have hy : y ∈ (rw_ n).filter (fun m => decide (m ∈ ks)) := by rw [e2]; exact List.mem_cons_self
        have := List.mem_filter.mp hy
        exact ⟨y, this.1, of_decide_eq_true this.2⟩
    | false =>
      refine iteF ?_
      refine ⟨L, _, hL4, trivial, fun od2 => ?_⟩
      have R4 : RowsT K (upd H4 L (.frz od2 (.dK (kvsOf ks ad)))) ns rw_ ad := fun n hn => sqT_lock hL4 dk_nf (sqT_same s4 (R n hn))
      refine ⟨_, rfl, L, od2, rfl, .inl ⟨_, upd_same, fun D3 hD3 => ?_⟩⟩
      have ne : D3 ≠ L := fun z => by rw [z, upd_same] at hD3; cases hD3
      have hu5 : SqL K (upd H4 L (.frz od2 (.dK (kvsOf ks ad)))) D (rd.map V.str) := sqL_lock hL4 dk_nf (.inl (.inl hu4))
      refine lc_it walk_keys (fun i H' => Same (upd H4 L (.frz od2 (.dK (kvsOf ks ad)))) H' ∧ ∃ ps : List Addr, H' D3 = some (.lst (ps.map V.ref)) ∧ ps.length ≤ i ∧ Paired (fun p kv => SqT K H' p [L2.kV kv.1, kv.2]) ps (kvsOf ((ks.take i).filter fun k => !decide (k ∈ rd)) ad)) ⟨Same.new (Same.refl _) hD3, [], upd_same, Nat.le_refl _, by rw [List.take_zero]; exact .nil⟩ (fun i H' _ p => p.1 _ _ upd_same) ?_ ?_
      · rintro i y H5 H6 hi ⟨s5, ps, hps, hpl, hpp⟩ ⟨rfl, kk, v, hkk, rfl⟩
        obtain ⟨n, hn, rfl, rfl⟩ := kvsOf_get hkk
        have hn1 := List.mem_of_getElem? hn
        have tk1 : ks.take (i + 1) = ks.take i ++ [n] := by rw [List.take_succ, hn]; rfl
        rw [kvsOf_len] at hi
        refine ⟨rfl, _, rfl, _, rfl, D, _, rfl, .inl (sqL_same s5 hu5), rfl, flat_strs rd, _, rfl, ?_⟩
        rw [if_pos rfl, show inV (L2.kV (Sum.inr n)) (rd.map V.str) = decide (n ∈ rd) from inV_str n rd]
        cases e1 : decide (n ∈ rd) with
        | true =>
          refine iteF ⟨s5, ps, hps, by omega, ?_⟩
          rw [tk1, List.filter_append, List.filter_cons, e1, if_neg (by decide), List.filter_nil, List.append_nil]
          exact hpp
        | false =>
          refine iteT ⟨_, rfl, _, rfl, _, rfl, L, _, rfl, dget_row (.inr ⟨od2, s5 _ _ upd_same⟩) hn1, (by show 2 ≤ sizeLine; omega), fun t ht => ?_⟩
          have st : Same H6 (upd H6 t (.tup [.str n, .ref (ad n)])) := Same.new (Same.refl _) ht
          have hp6 := st _ _ hps
          refine ⟨_, hp6, by rw [List.length_map]; omega, fun b o eb => ?_, ps ++ [t], ?_, by rw [List.length_append]; simp; omega, ?_⟩
          · rw [upd_ne (ne_of_none eb hD3)]
            exact st _ _ (s5 b o eb)
          · rw [List.map_append]
            exact upd_same
          · rw [tk1, List.filter_append, List.filter_cons, e1, if_pos (by decide), List.filter_nil]
            have ek : kvsOf ((ks.take i).filter (fun k => !decide (k ∈ rd)) ++ [n]) ad = kvsOf ((ks.take i).filter fun k => !decide (k ∈ rd)) ad ++ [(Sum.inr n, V.ref (ad n))] := by
              unfold kvsOf
              rw [List.map_append]
              rfl
            rw [ek]
            exact (hpp.mono fun p kv h => sqT_upd hp6 (sqT_same st h)).snoc (sqT_upd hp6 (.inl (.inl upd_same)))
      · rintro H5 ⟨s5, ps, hps, hpl, hpp⟩
        have hz5 := s5 _ _ upd_same
        rw [kvsOf_len, List.take_length] at hpp
        refine ⟨hz5, D3, ps, _, rfl, .inl (.inl (by rw [upd_ne ne]; exact hps)), hpp.mono fun p kv h => sqT_unlock hz5 h, fun L' hL' => ?_⟩
        rw [merge_kvs (nodup_filter I.nd)]
        have I' := I.step (ready := rd) rdy
        refine ⟨L', _, _, ?_, rfl, Same.new (Same.trans s4 (same_unlock hL4 s5)) hL', upd_same, I'⟩
        obtain ⟨y, hy⟩ : ∃ y, y ∈ rd := List.exists_mem_of_ne_nil _ (fun z => by rw [z] at er; cases er)
        have hyk : y ∈ ks := by rw [← hrd] at hy; exact (List.mem_filter.mp hy).1
        have := filter_lt (p := fun k => !decide (k ∈ rd)) (q := fun _ => true) (l := ks) (fun _ _ => rfl) ⟨y, hyk, rfl, by rw [decide_eq_true hy]; rfl⟩
        have e : ks.filter (fun _ => true) = ks := List.filter_eq_self.mpr fun _ _ => rfl
        rw [e] at this
        exact this
end
end Fm
set_option Elab.async false
set_option linter.all false
set_option maxRecDepth 100000
namespace Fm
open PySem L2 PySem.Spec
theorem none_back {H H' : Hp} {a : Addr} (s : Same H H') (h : H' a = none) : H a = none := by
  cases e : H a with
  | none => rfl
  | some o => rw [s _ _ e] at h; cases h
theorem lowOf_le {one : List Nat} {size : Nat} (h : ∀ i, i ∈ one → i < size) : lowOf one ≤ size := by
  unfold lowOf
  cases e : one.getLast? with
  | none => exact Nat.zero_le _
  | some a => exact h a (List.mem_of_getLast? e)
section
variable {P : Program} {w : World} {K : PySem.W.Frag} {mg : Str → Option Value} {base : Heap}
/-! ### _law_cut -/
def spLCut (K : PySem.W.Frag) : Sp := fun vs H Q _ => ∃ (e t : Addr) (ns : List Str) (rw : Str → List Str) (ad : Str → Addr) (rest : List V) (cut : List Pr), vs = [.ref e, .ref t] ∧ H e = some (.dK (kvsOf ns ad)) ∧ RowsT K H ns rw ad ∧ Good ns rw ∧
  SqT K H t rest ∧ DpAll K H rest (cut.map prD) ∧ (∀ p, p ∈ cut → PrOk p) ∧ ∀ H' e' ad', Same H H' → H' e' = some (.dK (kvsOf ns ad')) → RowsT K H' ns (rwCut rw cut) ad' → Q (.ref e') H'
theorem scLCut : FnScope ["needs", "pairs", "found", "name", "need"] ["needs", "pairs"] (defScope sCut) := ⟨rfl, rfl, rfl, by decide +kernel, rfl, by decide +kernel, by decide +kernel⟩
theorem ok_lcut {f : Addr} {fd : FuncData} (F : Fun K "_law_cut" "_law_cut" sCut f fd) (B : Bt mg) : FnOk P w K mg base CX0 1 f fd ["needs", "pairs"] (spLCut K) := by
  refine F.ok scLCut (fun vs H Q E h => ?_) (fun cdv A outer s H vs Q E hr h => ?_)
  · obtain ⟨e, t, ns, rw_, ad, rest, cut, rfl, _⟩ := h
    rfl
  · obtain ⟨e, t, ns, rw_, ad, rest, cut, rfl, he, R, G, ht, hc, hok, k⟩ := h
    have nd := scLCut.nd
    refine ⟨_, pss_cons (ps_set (i := 2) nd rfl (Or.inl rfl) pe_dnewK)
      (pss_cons (ps_lock (ps_for PassesOwn.never rfl (pi_keys (pv 0)) (pg_name (i := 3) nd rfl (Or.inr rfl))
        (pss_one (ps_dput (hu_of hr) (pv 2) (pv 3) (pe_tupleOf (by rfl) B.tuple (pe_lc (own := [("need", 4)]) (g := gName 4) (by rfl) nd (pi_tup (pe_dget (hu_of hr) (pv 0) (pv 3) (fun _ _ => rfl))) (blkOk_by (own := [("need", 4)]) (N := ["needs", "pairs", "found", "name", "need"]) (sc := defScope sCut) (by decide +kernel))
            (fun _ _ _ _ _ => pg_name (i := 4) nd rfl (Or.inl rfl)) (fun _ _ _ _ _ => pts_one (pt_cmpR (r := rNotInT K) (op_notInT (u65 hr)) (pe_tup (pa_cons (pv 3) (pa_cons (pv 4) pa_nil))) (pv 1) rfl)) (fun _ _ _ _ _ => pv 4))) rfl))))
      (pss_one (ps_ret (pv 2)))), ?_⟩
    have l5 := G.hi
    have sz : (100000 : Nat) < sizeLine := by decide
    intro q hq
    have hqe : q ≠ e := fun z => by rw [z, he] at hq; cases hq
    have he1 : (upd H q (.dK [])) e = some (.dK (kvsOf ns ad)) := by rw [upd_ne hqe.symm]; exact he
    refine ⟨e, _, he1, trivial, fun od => ?_⟩
    have hL : ∀ {H' : Hp}, Same (upd H e (.frz od (.dK (kvsOf ns ad)))) H' → H' e = some (.frz od (.dK (kvsOf ns ad))) := fun s => s _ _ upd_same
    have RL : RowsT K (upd H e (.frz od (.dK (kvsOf ns ad)))) ns rw_ ad := fun n hn => sqT_lock he dk_nf (R n hn)
    have tL : Dp K (upd H e (.frz od (.dK (kvsOf ns ad)))) (.ref t) (.tuple (cut.map prD)) := dp_lock he dk_nf (.tup ht hc)
    have hqL : (upd H e (.frz od (.dK (kvsOf ns ad)))) q = none := by rw [upd_ne hqe]; exact hq
    have s0 : Same (upd H e (.frz od (.dK (kvsOf ns ad)))) (upd (upd H q (.dK [])) e (.frz od (.dK (kvsOf ns ad)))) := fun b o eb => by
      by_cases hb : b = e
      · subst hb; rw [upd_same] at eb ⊢; exact eb
      · rw [upd_ne hb] at eb ⊢
        rw [upd_ne (ne_of_none eb hq)]
        exact eb
    refine ⟨_, rfl, e, od, rfl, .inl ⟨_, upd_same, ?_⟩⟩
    have wk : Walk (Itk e od (kvsOf ns ad)) ns.length (fun H => H e = some (.frz od (.dK (kvsOf ns ad)))) (fun i H x H' => H' = H ∧ ∃ k v, (kvsOf ns ad)[i]? = some (k, v) ∧ x = L2.kV k) := by
      have := walk_keys (d := e) (o := od) (kvs := kvsOf ns ad)
      rwa [kvsOf_len] at this
    refine for_it wk (fun i σ H' => ∃ v, σ = [some (.ref e), some (.ref t), some (.ref q), v, none] ∧ Same (upd H e (.frz od (.dK (kvsOf ns ad)))) H' ∧ ∃ ad', H' q = some (.dK (kvsOf (ns.take i) ad')) ∧ ∀ n, n ∈ ns.take i → SqT K H' (ad' n) ((rwCut rw_ cut n).map V.str))
      ⟨_, rfl, s0, fun _ => 0, by rw [upd_ne hqe]; exact upd_same, fun n hn => by rw [List.take_zero] at hn; cases hn⟩ (fun i σ H' _ p => by obtain ⟨v, _, s1, _⟩ := p; exact hL s1) ?_ ?_
    · rintro i y σ1 H1 H2 hi ⟨v, rfl, s1, ad', hd, hr1⟩ ⟨rfl, kk, v', hk, rfl⟩
      obtain ⟨n, hn, rfl, rfl⟩ := kvsOf_get hk
      have hn' := List.mem_of_getElem? hn
      have rl := G.rlen hn'
      have R2 := RL.same s1
      refine ⟨_, rfl, _, rfl, e, _, rfl, dget_row (.inr ⟨od, hL s1⟩) hn', ad n, rfl, ⟨_, R2 n hn'⟩, fun D hD => ?_⟩
      refine lc_data (K := K) (walk_tup (xs := (rw_ n).map V.str)) hD (fun j => (rw_ n)[j]?.bind fun m => if (!decide ((n, m) ∈ cut)) = true then some (PyData.str m) else none) (by rw [List.length_map]; omega) (fun H' s' => sqT_same s' (R2 n hn')) (fun j _ e he => bind_tless (fun m e h => ?_) he) ?_ ?_
      · split at h
        · cases h; rfl
        · cases h
      · rintro j y H4 H5 kt' kf' hj s4 _ ⟨rfl, hy⟩ kT' kN'
        obtain ⟨m, hm, rfl⟩ := at_str hy
        have hm' := List.mem_of_getElem? hm
        refine ⟨rfl, _, rfl, _, rfl, (by show 2 ≤ sizeLine; omega), fun u hu => ?_⟩
        have sq : Same H5 (upd H5 u (.tup [.str n, .str m])) := Same.new (Same.refl _) hu
        refine ⟨_, rfl, prD (n, m), cut.map prD, .tup (.inl (.inl upd_same)) (.cons (.str _) (.cons (.str _) .nil)), dp_same sq (dp_same s4 (dp_same s1 tL)), (lv_pr (k := 0) ⟨G.str hn', G.str (G.sub n hn' m hm')⟩).shaped (by decide), (Lv.tuple (k := 1) (lv_prs fun q hq => hok q hq)).shaped (by decide), _, rfl, ?_⟩
        rw [any_pr]
        cases e1 : decide ((n, m) ∈ cut) with
        | true => exact iteF (kN' _ (by rw [hm]; show (if (!decide ((n, m) ∈ cut)) = true then some (PyData.str m) else none) = none; rw [e1]; rfl) sq)
        | false => exact iteT ⟨_, rfl, kT' _ _ _ (by rw [hm]; show (if (!decide ((n, m) ∈ cut)) = true then some (PyData.str m) else none) = _; rw [e1]; rfl) sq (Dp.str m)⟩
      intro H4 us s4 hu hp
      rw [List.length_map, range_map, fm_filter] at hp
      obtain rfl := dpAll_strs' hp
      refine .inl ⟨D, _, rfl, .inl (.inl hu), fun u hu2 => ?_⟩
      have s5 : Same H2 (upd H4 u (.tup ((rwCut rw_ cut n).map V.str))) := Same.new s4 hu2
      have hd5 := s5 _ _ hd
      have nin : ¬ n ∈ ns.take i := fun z => by
        obtain ⟨j, hj, e⟩ := List.getElem_of_mem z
        rw [List.length_take] at hj
        rw [List.getElem_take] at e
        have hjl : j < ns.length := by omega
        have h1 : ns[i] = n := by
          have := List.getElem?_eq_getElem hi
          rw [hn] at this
          exact (Option.some.inj this).symm
        have := List.pairwise_iff_getElem.mp G.nd j i hjl hi (by omega)
        exact this (by rw [e, h1])
      have tk1 : ns.take (i + 1) = ns.take i ++ [n] := by rw [List.take_succ, hn]; rfl
      refine ⟨_, rfl, _, rfl, q, _, rfl, .inl ⟨_, Sum.inr n, hd5, rfl, ?_, rfl⟩, _, rfl, ?_⟩
      · rw [kvsOf_len, List.length_take]; omega
      refine ⟨fun b o eb => ?_, fun m => if m = n then u else ad' m, ?_, fun m hm => ?_⟩
      · rw [upd_ne (ne_of_none eb hqL)]
        exact s5 _ _ (s1 b o eb)
      · rw [kvsOf_snoc nin, tk1]
        exact upd_same
      · rw [tk1] at hm
        rcases List.mem_append.mp hm with hm | hm
        · have ne : ¬ m = n := fun z => nin (by rw [← z]; exact hm)
          show SqT K _ (if m = n then u else ad' m) _
          rw [if_neg ne]
          exact sqT_updD hd5 (sqT_same s5 (hr1 m hm))
        · rw [List.mem_singleton.mp hm]
          show SqT K _ (if n = n then u else ad' n) _
          rw [if_pos rfl]
          exact sqT_updD hd5 (.inl (.inl upd_same))
    · rintro σ1 H1 ⟨v, rfl, s1, ad', hd, hr1⟩
      rw [List.take_length] at hd hr1
      refine ⟨hL s1, _, rfl, k _ q ad' (same_unlock he s1) (by rw [upd_ne hqe]; exact hd) fun n hn => sqT_unlock (hL s1) (hr1 n hn)⟩
/-! ### _law_sets -/
def spSets (K : PySem.W.Frag) : Sp := fun vs H Q _ => ∃ (size many : Nat), vs = [.int (size : Nat), .int (many : Nat)] ∧ size ≤ 8 ∧ many ≤ 8 ∧
  ∀ H' D us, H D = none → Same H H' → H' D = some (.lst us) → DpAll K H' us ((rising many 0 size).map risD) → Q (.ref D) H'
theorem scSets : FnScope ["size", "many", "level", "turn", "longer", "one", "low", "at"] ["size", "many"] (defScope sSets) := ⟨rfl, rfl, rfl, by decide +kernel, rfl, by decide +kernel, by decide +kernel⟩
theorem ok_sets {f : Addr} {fd : FuncData} (F : Fun K "_law_sets" "_law_sets" sSets f fd) (B : Bt mg) : FnOk P w K mg base CX0 1 f fd ["size", "many"] (spSets K) := by
  refine F.ok scSets (fun vs H Q E h => ?_) (fun cdv A outer s H vs Q E hr h => ?_)
  · obtain ⟨size, many, rfl, _⟩ := h
    rfl
  · obtain ⟨size, many, rfl, hs8, hm8, k⟩ := h
    have nd := scSets.nd
    refine ⟨_, pss_cons (ps_set (i := 2) nd rfl (Or.inl rfl) (pe_lst (pa_cons (pe_tup pa_nil) pa_nil)))
      (pss_cons (ps_for PassesOwn.never rfl (pi_range1 (by rfl) B.range (pa_cons (pv 1) pa_nil)) (pg_name (i := 3) nd rfl (Or.inl rfl))
        (pss_cons (ps_set (i := 4) nd rfl (Or.inl rfl) (pe_lst pa_nil))
        (pss_cons (ps_for PassesOwn.never rfl (pi_list (pv 2)) (pg_name (i := 5) nd rfl (Or.inr rfl))
          (Evl.pss_cut (ps_set (i := 6) nd rfl (Or.inl rfl) (pe_ifExp (pt_cmpR (op_neD hr.units) (pv 5) (pe_tup pa_nil) (nomark _)) (pe_op op_add (pe_ix ix_tup (pv 5) (pe_un un_neg pe_int) (fun _ _ => rfl)) pe_int) pe_int))
          (pss_one (ps_set (i := 4) nd rfl (Or.inl rfl) (pe_op op_cat (pv 4) (pe_lc (own := [("at", 7)]) (g := gName 7) (by rfl) nd (pi_range2 (by rfl) B.range (pa_cons (pv 6) (pa_cons (pv 0) pa_nil))) (blkOk_by (own := [("at", 7)]) (N := ["size", "many", "level", "turn", "longer", "one", "low", "at"]) (sc := defScope sSets) (by decide +kernel))
            (fun _ _ _ _ _ => pg_name (i := 7) nd rfl (Or.inl rfl)) (fun _ _ _ _ _ => pts_nil) (fun _ _ _ _ _ => pe_op (r := rCatA K) op_catA (pv 5) (pe_tup (pa_cons (pv 7) pa_nil)))))))))
        (pss_one (ps_set (i := 2) nd rfl (Or.inl rfl) (pe_callTy call_list_of (by rfl) B.list boot_tlist (pa_cons (pv 4) pa_nil)))))))
      (pss_one (ps_ret (pv 2)))), ?_⟩
    have sz : (100000 : Nat) < sizeLine := by decide
    refine ⟨Nat.zero_le _, fun q hq => ⟨by show 1 ≤ sizeLine; omega, fun p hp => ?_⟩⟩
    have s0 : Same H (upd (upd H q (.tup [])) p (.lst [V.ref q])) := Same.new (Same.new (Same.refl _) hq) hp
    have h0 : (upd (upd H q (.tup [])) p (.lst [V.ref q])) p = some (.lst [V.ref q]) := upd_same
    have d0 : DpAll K (upd (upd H q (.tup [])) p (.lst [V.ref q])) [V.ref q] (([[]] : List (List Nat)).map risD) := by
      refine .cons (risD_mk (.inl (.inl ?_))) .nil
      rw [upd_ne (ne_of_none upd_same hp)]
      exact upd_same
    have hp0 : H p = none := none_back (Same.new (Same.refl _) hq) hp
    generalize upd (upd H q (.tup [])) p (.lst [V.ref q]) = H0 at s0 h0 d0 ⊢
    refine ⟨_, rfl, (many : Int), rfl, by omega, by omega, ?_⟩
    have em : ((many : Int)).toNat = many := by omega
    rw [em]
    refine for_it walk_range (fun i σ H' => ∃ L us v3 v4 v5 v6, σ = [some (.int (size : Nat)), some (.int (many : Nat)), some (.ref L), v3, v4, v5, v6, none] ∧ Same H H' ∧ H' L = some (.lst us) ∧ DpAll K H' us ((setsFrom size i [[]]).map risD) ∧ H L = none) ⟨p, _, none, none, none, none, rfl, s0, h0, d0, hp0⟩ (fun _ _ _ _ _ => trivial) ?_ ?_
    · rintro i y σ1 H1 H2 hi ⟨L, us, v3, v4, v5, v6, rfl, s1, hL, hp1, hLn⟩ ⟨rfl, rfl⟩
      have hlv : setsFrom size (i + 1) [[]] = setsStep size (setsFrom size i [[]]) := rfl
      have hlr := sets_rising size i
      generalize setsFrom size i [[]] = lv at *
      have lm : ∀ one, one ∈ lv → ∀ a, a ∈ one → a < size := fun one h1 => by rw [hlr] at h1; exact rising_mem h1
      have lz : ∀ one, one ∈ lv → one.length = i := fun one h1 => by rw [hlr] at h1; exact rising_size h1
      have lvl : lv.length ≤ 256 := by rw [hlr]; exact Nat.le_trans (rising_len i 0 size) (pow8 (by omega))
      have e1 := dpAll_length hp1
      rw [List.length_map] at e1
      refine ⟨Nat.zero_le _, fun q2 hq2 => ?_⟩
      have sq : Same H2 (upd H2 q2 (.lst [])) := Same.new (Same.refl _) hq2
      refine ⟨_, rfl, L, rfl, ⟨_, .inl (.inl (sq _ _ hL))⟩, ?_⟩
      refine for_it (walk_list (xs := us)) (fun j σ H' => ∃ L2 us2 v3 v5 v6, σ = [some (.int (size : Nat)), some (.int (many : Nat)), some (.ref L), v3, some (.ref L2), v5, v6, none] ∧ Same H2 H' ∧ H' L2 = some (.lst us2) ∧ DpAll K H' us2 (((lv.take j).flatMap fun one => (List.range' (lowOf one) (size - lowOf one)).map fun a => one ++ [a]).map risD)) ⟨q2, [], _, _, _, rfl, sq, upd_same, by rw [List.take_zero]; exact .nil⟩ (fun j σ H' _ p => by obtain ⟨_, _, _, _, _, _, s', _⟩ := p; exact .inl (.inl (s' _ _ hL))) ?_ ?_
      · rintro j y σ1 H3 H4 hj ⟨L2, us2, v3', v5', v6', rfl, s3, hL2, hp2⟩ ⟨rfl, hy⟩
        obtain ⟨e, he, hdp⟩ := dpAll_get' (dpAll_same s3 hp1) hy
        obtain ⟨one, hone, rfl⟩ := at_map he
        obtain ⟨b, rfl, hb⟩ := risD_dp hdp
        have hom := List.mem_of_getElem? hone
        have ll := lowOf_le (lm one hom)
        have lo := lz one hom
        refine ⟨fun σ' H' => σ' = [some (.int (size : Nat)), some (.int (many : Nat)), some (.ref L), v3', some (.ref L2), some (.ref b), some (.int (lowOf one : Nat)), none] ∧ Same H4 H', ?_, ?_⟩
        · refine ⟨_, rfl, Nat.zero_le _, fun u hu => ?_⟩
          have su : Same H4 (upd H4 u (.tup [])) := Same.new (Same.refl _) hu
          refine ⟨risD one, .tuple [], dp_same su hdp, .tup (.inl (.inl upd_same)) .nil, (lv_ris (k := 0) one).shaped (by decide), (Lv.tuple (k := 0) (fun _ h => by cases h)).shaped (by decide), _, rfl, ?_⟩
          show if (!PyData.eqv (.tuple (one.map fun i => PyData.int (i : Nat))) (.tuple [])) = true then _ else _
          rw [eqv_emptyT]
          rcases List.eq_nil_or_concat one with rfl | ⟨ini, last, rfl⟩
          · exact iteF ⟨rfl, su⟩
          · rw [List.concat_eq_append]
            have hne : (!((ini ++ [last]).map fun i => PyData.int (i : Nat)).isEmpty) = true := by simp
            rw [hne]
            rw [List.concat_eq_append] at hb
            refine iteT ⟨_, rfl, _, rfl, b, _, -1, .int (last : Nat), rfl, rfl, sqT_same su hb, ?_, _, _, rfl, rfl, ?_, su⟩
            · rw [List.map_append]
              exact atI_last _ _
            · have : lowOf (ini ++ [last]) = last + 1 := by simp [lowOf]
              rw [this]
              rfl
        · rintro σ' H5 ⟨rfl, s5⟩
          refine ⟨_, rfl, _, rfl, _, rfl, (lowOf one : Int), (size : Int), rfl, ⟨by omega, by omega, by omega, by omega⟩, fun D hD => ?_⟩
          have en : ((size : Int) - (lowOf one : Int)).toNat = size - lowOf one := by omega
          rw [en]
          have hb5 := sqT_same s5 hb
          refine lc_data (K := K) walk_range hD (fun a => some (risD (one ++ [lowOf one + a]))) (by omega) (fun _ _ => trivial) (fun a _ e he => by cases he; exact tless_ris _) ?_ ?_
          · rintro a z H6 H7 kt kf ha s6 _ ⟨rfl, rfl⟩ kT _
            have hb7 := sqT_same s6 hb5
            have ea : V.int ((lowOf one : Int) + (a : Int)) = V.int ((lowOf one + a : Nat) : Int) := by congr 1
            refine ⟨rfl, _, rfl, _, rfl, (by show 1 ≤ sizeLine; omega), fun t ht => ?_⟩
            have st : Same H7 (upd H7 t (.tup [.int ((lowOf one : Int) + (a : Int))])) := Same.new (Same.refl _) ht
            refine ⟨b, t, _, _, rfl, rfl, sqT_same st hb7, .inl (.inl upd_same), by rw [List.length_map, lo]; show i + 1 ≤ sizeLine; omega, fun hn => ?_, fun _ hn => (List.cons_ne_nil _ _ hn).elim, fun hn _ u hu => ?_⟩
            · have on : one = [] := by simpa using hn
              refine kT _ _ _ rfl st (risD_mk (.inl (.inl ?_)))
              subst on
              show upd H7 t (.tup [V.int ((lowOf [] : Int) + (a : Int))]) t = some (.tup [V.int ((lowOf [] + a : Nat) : Int)])
              rw [ea]
              exact upd_same
            · refine kT _ _ _ rfl (Same.new st hu) (risD_mk (.inl (.inl ?_)))
              rw [List.map_append]
              show upd (upd H7 t (.tup [V.int ((lowOf one : Int) + (a : Int))])) u (.tup ((one.map fun i => V.int (i : Nat)) ++ [V.int ((lowOf one : Int) + (a : Int))])) u = some (.tup ((one.map fun i => V.int (i : Nat)) ++ [V.int ((lowOf one + a : Nat) : Int)]))
              rw [ea]
              exact upd_same
          intro H6 us6 s6 hu6 hp6
          have e6 := dpAll_length hp6
          have e7 : ((List.range (size - lowOf one)).filterMap fun a => some (risD (one ++ [lowOf one + a]))) = ((List.range' (lowOf one) (size - lowOf one)).map fun a => one ++ [a]).map risD := by
            rw [List.filterMap_eq_map', List.range'_eq_map_range, List.map_map, List.map_map]
            rfl
          rw [e7] at hp6 e6
          rw [List.length_map, List.length_map, List.length_range'] at e6
          have e2 := dpAll_length hp2
          rw [List.length_map] at e2
          have b2 : ((lv.take j).flatMap fun one => (List.range' (lowOf one) (size - lowOf one)).map fun a => one ++ [a]).length ≤ 256 * 8 := by
            have := flatMap_len (l := lv.take j) (f := fun one => (List.range' (lowOf one) (size - lowOf one)).map fun a => one ++ [a]) (c := 8) fun one _ => by
              rw [List.length_map, List.length_range']
              omega
            rw [List.length_take] at this
            have : min j lv.length * 8 ≤ 256 * 8 := Nat.mul_le_mul_right _ (by omega)
            omega
          have hL6 := s6 _ _ (s5 _ _ hL2)
          refine ⟨L2, D, us2, us6, rfl, rfl, hL6, hu6, by omega, fun u hu => ?_⟩
          have su := Same.new (o := HO.lst (us2 ++ us6)) (Same.refl H6) hu
          refine ⟨u, _, _, _, _, rfl, Same.trans s3 (Same.trans s5 (Same.trans s6 su)), upd_same, ?_⟩
          have tk : lv.take (j + 1) = lv.take j ++ [one] := by rw [List.take_succ, hone]; rfl
          rw [tk, List.flatMap_append, List.map_append]
          refine dpAll_append (dpAll_same su (dpAll_same s6 (dpAll_same s5 hp2))) ?_
          rw [List.flatMap_cons, List.flatMap_nil, List.append_nil]
          exact dpAll_same su hp6
      · rintro σ1 H3 ⟨L2, us2, v3', v5', v6', rfl, s3, hL2, hp2⟩
        refine ⟨_, rfl, L2, us2, rfl, .inl (.inl (.inl hL2)), fun u hu => ?_⟩
        have su := Same.new (o := HO.lst us2) (Same.refl H3) hu
        refine ⟨u, us2, _, _, _, _, rfl, Same.trans s1 (Same.trans s3 su), upd_same, ?_, none_back (Same.trans s1 s3) hu⟩
        rw [hlv]
        rw [e1, List.take_length] at hp2
        exact dpAll_same su hp2
    · rintro σ1 H1 ⟨L, us, v3, v4, v5, v6, rfl, s1, hL, hp1, hLn⟩
      rw [sets_rising] at hp1
      exact ⟨_, rfl, k _ L us hLn s1 hL hp1⟩
end
end Fm
set_option Elab.async false
set_option linter.all false
set_option maxRecDepth 100000
namespace Fm
open PySem L2 PySem.Spec
def rListOf (K : PySem.W.Frag) : List V → Hp → VK → Prop := fun xs H Q => ∃ p ys, xs = [.ref p] ∧ (SqL K H p ys ∨ SqT K H p ys) ∧ ∀ l, H l = none → Q (.ref l) (upd H l (.lst ys))
theorem call_list_ofK {X : Cx} (K : PySem.W.Frag) (hK : X.K = K) : CallR X (.type "list") (rListOf K) := by subst hK; exact call_list_of
theorem flat_rows {ws : List Str} {rw : Str → List Str} : (ws.map fun n => (rw n).map V.str).flatten = (ws.flatMap rw).map V.str := by
  induction ws with
  | nil => rfl
  | cons w ws ih => rw [List.map_cons, List.flatten_cons, ih, List.flatMap_cons, List.map_append]
theorem But.sameOf {H H2 H' : Hp} {q : Addr} (s : Same H H2) (hq : H q = none) (b : But q H2 H') : Same H H' := fun c o h => b c o (s c o h) (ne_of_none h hq)
section
variable {P : Program} {w : World} {K : PySem.W.Frag} {mg : Str → Option Value} {base : Heap}
/-! ### _law_on_rings -/
def spOnR (K : PySem.W.Frag) : Sp := fun vs H Q _ => ∃ (e : Addr) (ns : List Str) (rw : Str → List Str) (ad : Str → Addr), vs = [.ref e] ∧ H e = some (.dK (kvsOf ns ad)) ∧ RowsT K H ns rw ad ∧ Good ns rw ∧
  ∀ H' D us, Same H H' → H' D = some (.lst us) → DpAll K H' us ((onRings (srt ns) rw).map prD) → Q (.ref D) H'
abbrev nOnR : List Str := ["needs", "found", "name", "need", "ways", "turn", "more", "one", "other"]
theorem scOnR : FnScope nOnR ["needs"] (defScope sOnRings) := ⟨rfl, rfl, rfl, by decide +kernel, rfl, by decide +kernel, by decide +kernel⟩
theorem ok_onR {f : Addr} {fd : FuncData} (F : Fun K "_law_on_rings" "_law_on_rings" sOnRings f fd) (B : Bt mg) : FnOk P w K mg base CX0 1 f fd ["needs"] (spOnR K) := by
  refine F.ok scOnR (fun vs H Q E h => ?_) (fun cdv A outer s H vs Q E hr h => ?_)
  · obtain ⟨e, ns, rw_, ad, rfl, _⟩ := h
    rfl
  · obtain ⟨e, ns, rw_, ad, rfl, he, R, G, k⟩ := h
    have nd := scOnR.nd
    refine ⟨_, pss_cons (ps_set (i := 1) nd rfl (Or.inl rfl) (pe_lst pa_nil))
      (pss_cons (ps_for PassesOwn.never rfl (pi_list (pe_callB cr_sortedS (by rfl) B.sorted boot_bsorted (pa_cons (pe_lock (pe_lc (own := [("one", 7)]) (g := gName 7) (by rfl) nd (pi_keys (pv 0)) (blkOk_by (own := [("one", 7)]) (N := nOnR) (sc := defScope sOnRings) (by decide +kernel))
            (fun _ _ _ _ _ => pg_name (i := 7) nd rfl (Or.inl rfl)) (fun _ _ _ _ _ => pts_nil) (fun _ _ _ _ _ => pe_callTy SkE.call_str_str (by rfl) B.str boot_tstr (pa_cons (pv 7) pa_nil)))) pa_nil))) (pg_name (i := 2) nd rfl (Or.inl rfl))
        (pss_one (ps_for PassesOwn.never rfl (pi_tup (pe_dget (hu_of hr) (pv 0) (pv 2) (fun _ _ => rfl))) (pg_name (i := 3) nd rfl (Or.inl rfl))
          (pss_cons (ps_set (i := 4) nd rfl (Or.inr rfl) (pe_lst (pa_cons (pv 3) pa_nil)))
          (pss_cons (ps_for PassesOwn.never rfl (pi_range1 (by rfl) B.range (pa_cons (pe_callB call_lenD (by rfl) B.len PySem.boot_len (pa_cons (pv 0) pa_nil)) pa_nil)) (pg_name (i := 5) nd rfl (Or.inl rfl))
            (pss_cons (ps_set (i := 6) nd rfl (Or.inl rfl) (pe_callB (cr_sumL rfl) (by rfl) B.sum boot_bsum (pa_cons (pe_lc (own := [("other", 8)]) (g := gName 8) (by rfl) nd (pi_list (pv 4)) (blkOk_by (own := [("other", 8)]) (N := nOnR) (sc := defScope sOnRings) (by decide +kernel))
                (fun _ _ _ _ _ => pg_name (i := 8) nd rfl (Or.inl rfl)) (fun _ _ _ _ _ => pts_nil) (fun _ _ _ _ _ => pe_callTy (r := rListOf K) (call_list_ofK K rfl) (by rfl) B.list boot_tlist (pa_cons (pe_dget (hu_of hr) (pv 0) (pv 8) (fun _ _ => rfl)) pa_nil))) (pa_cons (pe_lst pa_nil) pa_nil))))
            (pss_one (ps_set (i := 4) nd rfl (Or.inr rfl) (pe_op op_cat (pv 4) (pe_lc (own := [("other", 8)]) (g := gName 8) (by rfl) nd (pi_list (pv 6)) (blkOk_by (own := [("other", 8)]) (N := nOnR) (sc := defScope sOnRings) (by decide +kernel))
                (fun _ _ _ _ _ => pg_name (i := 8) nd rfl (Or.inl rfl)) (fun _ _ _ _ _ => pts_one (pt_cmpR (r := rIn K true) op_notIn_seq (pv 8) (pv 4) rfl)) (fun _ _ _ _ _ => pv 8)))))))
          (pss_one (ps_if (pt_cmpR op_in_seq (pv 2) (pv 4) (by rfl)) (pss_one (ps_expr (pe_bm PySem.F.plainAttrs_list PySem.F.slot_list_append PySem.F.type_list_append mt_append (pv 1) (pa_cons (pe_tup (pa_cons (pv 2) (pa_cons (pv 3) pa_nil))) pa_nil)))) pss_nil)))))))
      (pss_one (ps_ret (pv 1)))), ?_⟩
    have l5 := G.hi
    have sz : (100000 : Nat) < sizeLine := by decide
    refine ⟨Nat.zero_le _, fun q hq => ?_⟩
    have hqe : q ≠ e := fun z => by rw [z, he] at hq; cases hq
    have s1 : Same H (upd H q (.lst [])) := Same.new (Same.refl _) hq
    have hq1 : (upd H q (.lst [])) q = some (.lst []) := upd_same
    generalize upd H q (.lst []) = H1 at s1 hq1 ⊢
    refine ⟨e, _, s1 _ _ he, trivial, fun od => ?_⟩
    refine lcN (K := K) od (s1 _ _ he) (by omega) (fun R q => ⟨_, rfl, q⟩) (fun n => some (.str n)) (fun _ _ _ h => by cases h; rfl) ?_ ?_
    · rintro i n H3 kt kf hn s3 kT _
      exact ⟨rfl, _, rfl, n, rfl, kT _ _ _ rfl (Same.refl _) (.str n)⟩
    rintro D3 H0 us hD3 hz s3 hu3 hp3
    refine ⟨hz, ?_⟩
    generalize upd H0 e (.dK (kvsOf ns ad)) = H3 at s3 hu3 hp3 ⊢
    rw [List.filterMap_eq_map'] at hp3
    obtain rfl := dpAll_strs' hp3
    refine ⟨D3, ns, rfl, .inl (.inl hu3), by omega, fun ys l hperm hsort hl => ?_⟩
    obtain rfl : ys = srt ns := srt_eq hperm hsort
    have s4 : Same H1 (upd H3 l (.lst ((srt ns).map V.str))) := Same.new s3 hl
    have hl4 : (upd H3 l (.lst ((srt ns).map V.str))) l = some (.lst ((srt ns).map V.str)) := upd_same
    have hlq : l ≠ q := fun z => by rw [z, s3 _ _ hq1] at hl; cases hl
    have hq4 := s4 _ _ hq1
    generalize upd H3 l (.lst ((srt ns).map V.str)) = H4 at s4 hl4 hq4 ⊢
    have s04 : Same H H4 := Same.trans s1 s4
    have sl : (srt ns).length ≤ 5 := by rw [(srt_perm ns).length_eq]; exact l5
    have Gs : Good (srt ns) rw_ := G.perm (srt_perm ns)
    refine ⟨l, rfl, ⟨_, .inl (.inl hl4)⟩, ?_⟩
    refine for_it (walk_list (xs := (srt ns).map V.str)) (fun i σ H' => ∃ v2 v3 v4 v5 v6, σ = [some (.ref e), some (.ref q), v2, v3, v4, v5, v6, none, none] ∧ But q H4 H' ∧ ∃ us, H' q = some (.lst us) ∧ DpAll K H' us (((pairsOf ((srt ns).take i) rw_).filter (onR rw_)).map prD))
      ⟨none, none, none, none, none, rfl, But.refl _ _, [], hq4, by rw [List.take_zero]; exact .nil⟩ (fun i σ H' _ p => by obtain ⟨_, _, _, _, _, _, b, _⟩ := p; exact .inl (.inl (b _ _ hl4 hlq))) ?_ ?_
    · rintro i y σ1 H5 H6 hi ⟨v2, v3, v4, v5, v6, rfl, b5, us, hu5, hp5⟩ ⟨rfl, hy⟩
      obtain ⟨n, hn, rfl⟩ := at_str hy
      have hns := List.mem_of_getElem? hn
      have hn' : n ∈ ns := srt_mem.mp hns
      have s06 : Same H H6 := But.sameOf s04 hq b5
      have R6 := R.same s06
      have rl := G.rlen hn'
      have pl0 := Gs.plen (l := (srt ns).take i) (fun z hz => List.mem_of_mem_take hz) (by rw [List.length_take]; omega)
      refine ⟨_, rfl, _, rfl, e, _, rfl, dget_row (.inl (s06 _ _ he)) hn', ad n, rfl, ⟨_, R6 n hn'⟩, ?_⟩
      refine for_it (walk_tup (xs := (rw_ n).map V.str)) (fun j σ H' => ∃ v3 v4 v5 v6, σ = [some (.ref e), some (.ref q), some (.str n), v3, v4, v5, v6, none, none] ∧ But q H4 H' ∧ ∃ us, H' q = some (.lst us) ∧ DpAll K H' us (((pairsOf ((srt ns).take i) rw_ ++ ((rw_ n).take j).map fun m => (n, m)).filter (onR rw_)).map prD))
        ⟨_, _, _, _, rfl, b5, us, hu5, by rw [List.take_zero, List.map_nil, List.append_nil]; exact hp5⟩ (fun j σ H' _ p => by obtain ⟨_, _, _, _, _, b, _⟩ := p; exact (R.same (But.sameOf s04 hq b)) n hn') ?_ ?_
      · rintro j y σ1 H7 H8 hj ⟨v3', v4', v5', v6', rfl, b7, us7, hu7, hp7⟩ ⟨rfl, hy⟩
        obtain ⟨m, hm, rfl⟩ := at_str hy
        have hmr := List.mem_of_getElem? hm
        have hm' := G.sub n hn' m hmr
        have s08 : Same H H8 := But.sameOf s04 hq b7
        refine ⟨_, rfl, (by show 1 ≤ sizeLine; omega), fun W0 hW0 => ?_⟩
        have sW : Same H8 (upd H8 W0 (.lst [.str m])) := Same.new (Same.refl _) hW0
        have hW1 : (upd H8 W0 (.lst [.str m])) W0 = some (.lst [.str m]) := upd_same
        generalize upd H8 W0 (.lst [.str m]) = H9 at sW hW1 ⊢
        refine ⟨_, rfl, e, _, rfl, sW _ _ (s08 _ _ he), _, rfl, by omega, ?_, ?_⟩
        · rw [kvsOf_len]; omega
        have en : (((kvsOf ns ad).length : Int)).toNat = ns.length := by rw [kvsOf_len]; omega
        rw [en]
        refine for_it walk_range (fun t σ H' => ∃ W ws v5 v6, σ = [some (.ref e), some (.ref q), some (.str n), some (.str m), some (.ref W), v5, v6, none, none] ∧ Same H8 H' ∧ H' W = some (.lst (ws.map V.str)) ∧ WaysInv ns rw_ m ws t)
          ⟨W0, [m], _, _, rfl, sW, hW1, WaysInv.start hm'⟩ (fun _ _ _ _ _ => trivial) ?_ ?_
        · rintro t y σ1 H10 H11 ht ⟨W, ws, v5, v6, rfl, s10, hW, I⟩ ⟨rfl, rfl⟩
          have wn : ∀ x, x ∈ ws → x ∈ ns := fun x hx => by
            rcases I.rt x hx with e | tr
            · rw [e]; exact hm'
            · exact tr.in_ns G.sub hm'
          have wl : ws.length ≤ 1296 := Nat.le_trans I.len (Nat.le_trans (Nat.pow_le_pow_right (by decide) (show t ≤ 4 by omega)) (by decide))
          have fl : (ws.flatMap rw_).length ≤ ws.length * 5 := flatMap_len fun x hx => G.rlen (wn x hx)
          have s11 : Same H H11 := Same.trans s08 s10
          refine ⟨_, rfl, W, rfl, ⟨_, .inl (.inl hW)⟩, fun D hD => ?_⟩
          refine lc_it (walk_list (xs := ws.map V.str)) (fun i H' => Same H11 H' ∧ ∃ us : List V, H' D = some (.lst us) ∧ us.length ≤ i ∧ Paired (fun x z => ∃ b, x = V.ref b ∧ b ≠ D ∧ H' b = some (.lst z)) us ((ws.take i).map fun n => (rw_ n).map V.str))
            ⟨Same.new (Same.refl _) hD, [], upd_same, Nat.le_refl _, by rw [List.take_zero]; exact .nil⟩ (fun i H' _ p => .inl (.inl (p.1 _ _ hW))) ?_ ?_
          · rintro i y H12 H13 hi' ⟨s12, us, hus, hul, hpp⟩ ⟨rfl, hy⟩
            obtain ⟨o, ho, rfl⟩ := at_str hy
            have hon := wn o (List.mem_of_getElem? ho)
            have s13 : Same H H13 := Same.trans s11 s12
            rw [List.length_map] at hi'
            refine ⟨rfl, _, rfl, _, rfl, e, _, rfl, dget_row (.inl (s13 _ _ he)) hon, ad o, _, rfl, .inr ((R.same s13) o hon), fun b hb => ?_⟩
            have hbD : b ≠ D := fun z => by rw [z, hus] at hb; cases hb
            have sb : Same H13 (upd H13 b (.lst ((rw_ o).map V.str))) := Same.new (Same.refl _) hb
            refine ⟨us, sb _ _ hus, by omega, fun c oc ec => ?_, us ++ [.ref b], upd_same, by rw [List.length_append]; simp; omega, ?_⟩
            · rw [upd_ne (ne_of_none ec hD)]
              exact sb _ _ (s12 c oc ec)
            · have tk : ws.take (i + 1) = ws.take i ++ [o] := by rw [List.take_succ, ho]; rfl
              rw [tk, List.map_append]
              refine (hpp.mono fun x z h => ?_).snoc ⟨b, rfl, hbD, by rw [upd_ne hbD]; exact upd_same⟩
              obtain ⟨c, h1, h2, h3⟩ := h
              exact ⟨c, h1, h2, by rw [upd_ne h2]; exact sb _ _ h3⟩
          rintro H12 ⟨s12, us, hus, hul, hpp⟩
          rw [List.length_map] at hul hpp
          rw [List.take_length] at hpp
          refine ⟨Nat.zero_le _, fun z hz => ?_⟩
          have sz' : Same H12 (upd H12 z (.lst [])) := Same.new (Same.refl _) hz
          have une : us ≠ [] := fun hn => by
            have q := hpp.length
            rw [hn, List.length_map] at q
            have q2 : ws = [] := List.length_eq_zero_iff.mp q.symm
            have q3 := I.fst
            rw [q2] at q3
            cases q3
          refine ⟨D, z, us, _, [], rfl, .inl (.inl (sz' _ _ hus)), upd_same, une, hpp.mono fun x zz h => ?_, ?_, fun p hp => ?_⟩
          · obtain ⟨c, h1, h2, h3⟩ := h
            exact ⟨c, h1, sz' _ _ h3⟩
          · rw [flat_rows, List.nil_append, List.length_map]; omega
          rw [flat_rows, List.nil_append]
          have sp : Same H12 (upd (upd H12 z (.lst [])) p (.lst ((ws.flatMap rw_).map V.str))) := Same.new sz' hp
          have hp1 : (upd (upd H12 z (.lst [])) p (.lst ((ws.flatMap rw_).map V.str))) p = some (.lst ((ws.flatMap rw_).map V.str)) := upd_same
          generalize upd (upd H12 z (.lst [])) p (.lst ((ws.flatMap rw_).map V.str)) = H13 at sp hp1 ⊢
          have s13 : Same H11 H13 := Same.trans s12 sp
          have hW3 := s13 _ _ hW
          refine ⟨_, rfl, _, rfl, p, rfl, ⟨_, .inl (.inl hp1)⟩, fun D2 hD2 => ?_⟩
          refine lc_data (K := K) (walk_list (xs := (ws.flatMap rw_).map V.str)) hD2 (fun j => (ws.flatMap rw_)[j]?.bind fun y => if (!decide (y ∈ ws)) = true then some (PyData.str y) else none) (by rw [List.length_map]; omega) (fun H' s' => .inl (.inl (s' _ _ hp1))) (fun j _ e he => bind_tless (fun m e h => ?_) he) ?_ ?_
          · split at h
            · cases h; rfl
            · cases h
          · rintro j y H14 H15 kt kf hj s14 _ ⟨rfl, hy⟩ kT kN
            obtain ⟨o, ho, rfl⟩ := at_str hy
            refine ⟨rfl, _, rfl, _, rfl, W, _, rfl, .inl (.inl (.inl (s14 _ _ hW3))), rfl, flat_strs ws, _, rfl, ?_⟩
            rw [if_pos rfl, inV_str]
            cases e1 : decide (o ∈ ws) with
            | true => exact iteF (kN _ (by rw [ho]; show (if (!decide (o ∈ ws)) = true then some (PyData.str o) else none) = none; rw [e1]; rfl) (Same.refl _))
            | false => exact iteT ⟨_, rfl, kT _ _ _ (by rw [ho]; show (if (!decide (o ∈ ws)) = true then some (PyData.str o) else none) = _; rw [e1]; rfl) (Same.refl _) (Dp.str o)⟩
          intro H14 us2 s14 hu14 hp14
          rw [List.length_map, range_map, fm_filter] at hp14
          obtain rfl := dpAll_strs' hp14
          have fl2 := List.length_filter_le (fun y => !decide (y ∈ ws)) (ws.flatMap rw_)
          refine ⟨W, D2, _, _, rfl, rfl, s14 _ _ hW3, hu14, by rw [List.length_map, List.length_map]; omega, fun W' hW' => ?_⟩
          refine ⟨W', waysNext rw_ ws, _, _, rfl, Same.new (Same.trans s10 (Same.trans s13 s14)) hW', ?_, I.step G.sub (fun n hn => G.rlen hn) hm'⟩
          unfold waysNext
          rw [List.map_append]
          exact upd_same
        · rintro σ1 H10 ⟨W, ws, v5, v6, rfl, s10, hW, I⟩
          have dn := I.done (Nat.le_refl _) n
          have ein : decide (n ∈ ws) = onR rw_ (n, m) := by
            cases eo : onR rw_ (n, m) with
            | true => exact decide_eq_true (dn.mpr (onR_iff.mp eo))
            | false =>
              refine decide_eq_false fun z => ?_
              have := (onR_iff (rw := rw_) (p := (n, m))).mpr (dn.mp z)
              rw [eo] at this
              cases this
          have tk : (rw_ n).take (j + 1) = (rw_ n).take j ++ [m] := by rw [List.take_succ, hm]; rfl
          have ap : pairsOf ((srt ns).take i) rw_ ++ ((rw_ n).take j ++ [m]).map (fun m => (n, m)) = (pairsOf ((srt ns).take i) rw_ ++ ((rw_ n).take j).map fun m => (n, m)) ++ [(n, m)] := by simp
          refine ⟨_, rfl, _, rfl, W, _, rfl, .inl (.inl (.inl hW)), rfl, flat_strs ws, _, rfl, ?_⟩
          rw [if_neg (by decide), inV_str, ein]
          have hq10 := s10 _ _ hu7
          have b10 : But q H4 H10 := But.trans b7 (Same.but s10)
          cases eo : onR rw_ (n, m) with
          | true =>
            refine iteT ⟨_, rfl, .inl ⟨rfl, _, .inl (.inl hq10)⟩, _, rfl, _, rfl, (by show 2 ≤ sizeLine; omega), fun t ht => ?_⟩
            have st : Same H10 (upd H10 t (.tup [.str n, .str m])) := Same.new (Same.refl _) ht
            have e7 := dpAll_length hp7
            rw [List.length_map] at e7
            have e8 := List.length_filter_le (onR rw_) (pairsOf ((srt ns).take i) rw_ ++ ((rw_ n).take j).map fun m => (n, m))
            rw [List.length_append, List.length_map, List.length_take] at e8
            have hq11 := st _ _ hq10
            refine ⟨q, us7, .ref t, rfl, rfl, hq11, by omega, ?_⟩
            refine ⟨_, _, _, _, rfl, But.trans b10 (But.trans (Same.but st) But.upd), us7 ++ [.ref t], upd_same, ?_⟩
            rw [tk, ap, List.filter_append, List.map_append]
            have e9 : ([(n, m)].filter (onR rw_)).map prD = [prD (n, m)] := by rw [List.filter_cons, if_pos eo]; rfl
            rw [e9]
            refine dpAll_append (dpAll_updL hq11 (tlessAll_prs _) (dpAll_same st (dpAll_same s10 hp7))) (.cons (dp_updL hq11 (tless_pr _) (.tup (.inl (.inl upd_same)) (.cons (.str _) (.cons (.str _) .nil)))) .nil)
          | false =>
            refine iteF ⟨_, _, _, _, rfl, b10, us7, hq10, ?_⟩
            rw [tk, ap, List.filter_append, List.map_append]
            have e9 : ([(n, m)].filter (onR rw_)).map prD = [] := by rw [List.filter_cons, if_neg (by rw [eo]; decide)]; rfl
            rw [e9, List.append_nil]
            exact dpAll_same s10 hp7
      · rintro σ1 H7 ⟨v3', v4', v5', v6', rfl, b7, us7, hu7, hp7⟩
        rw [List.length_map, List.take_length] at hp7
        exact ⟨_, _, _, _, _, rfl, b7, us7, hu7, by rw [pairs_take hn]; exact hp7⟩
    · rintro σ1 H5 ⟨v2, v3, v4, v5, v6, rfl, b5, us, hu5, hp5⟩
      rw [List.length_map, List.take_length] at hp5
      exact ⟨_, rfl, k _ q us (But.sameOf s04 hq b5) hu5 hp5⟩
end
end Fm
set_option Elab.async false
set_option linter.all false
set_option maxRecDepth 100000
namespace Fm
open PySem L2 PySem.Spec
theorem pe_nev {X : Cx} {e : Expr} : PE X e (fun _ _ _ => False) := ⟨fun _ _ _ _ _ _ h => h.elim⟩
theorem PoolAt.same {H H' : Hp} {p : Addr} (h : PoolAt H p) (s : Same H H') : PoolAt H' p := by
  obtain ⟨a, b, e, q⟩ := h.ex
  exact ⟨a, b, s _ _ e, q⟩
theorem PoolAt.upd {H : Hp} {p D : Addr} {o : HO} (h : PoolAt H p) (n : D ≠ p) : PoolAt (L2.upd H D o) p := by
  obtain ⟨a, b, e, q⟩ := h.ex
  exact ⟨a, b, by rw [upd_ne n.symm]; exact e, q⟩
theorem PoolAt.ne {H : Hp} {p D : Addr} (h : PoolAt H p) (n : H D = none) : D ≠ p := fun z => by
  obtain ⟨a, b, e, q⟩ := h.ex
  rw [z, e] at n
  cases n
theorem seqT_pool {K : PySem.W.Frag} {H H' : Hp} {p a : Addr} {xs : List V} (h : PoolAt H p) (b : But p H H') (s : SqT K H a xs) : SqT K H' a xs := by
  obtain ⟨x, y, e, q⟩ := h.ex
  rcases s with (s | ⟨o, s⟩) | s
  · exact .inl (.inl (b _ _ s (ne_of s e (by intro z; cases z))))
  · exact .inl (.inr ⟨o, b _ _ s (ne_of s e (by intro z; cases z))⟩)
  · exact .inr s
def theLists : List (List Str) := [["a", "b", "c"], ["y", "x", "zz"], ["p", "q", "r", "s"], ["abcdefgh"], ["m", "n"]]
def nameB (n : Str) : Bool := decide (1 ≤ n.length) && decide (n.length ≤ 8) && n.cps.toList.all fun c => letters.cps.toList.contains c
theorem nameB_ok {n : Str} (h : nameB n = true) : NameOk n := by
  unfold nameB at h
  simp only [Bool.and_eq_true, decide_eq_true_eq, List.all_eq_true] at h
  exact ⟨h.1.1, h.1.2, fun c hc => by simpa using h.2 c hc⟩
theorem lists_ok : (theLists.all fun l => decide l.Nodup && decide (1 ≤ l.length) && decide (l.length ≤ 5) && l.all nameB) = true := by decide +kernel
structure ListOk (l : List Str) : Prop where
  nd : l.Nodup
  lo : 1 ≤ l.length
  hi : l.length ≤ 5
  nm : ∀ n, n ∈ l → NameOk n
theorem listOk {l : List Str} (h : l ∈ theLists) : ListOk l := by
  have := List.all_eq_true.mp lists_ok l h
  simp only [Bool.and_eq_true, decide_eq_true_eq, List.all_eq_true] at this
  exact ⟨this.1.1.1, this.1.1.2, this.1.2, fun n hn => nameB_ok (this.2 n hn)⟩
section
variable {P : Program} {w : World} {K : PySem.W.Frag} {mg : Str → Option Value} {base : Heap}
/-! ### _law_needs -/
def spDraw (K : PySem.W.Frag) : Sp := fun vs H Q _ => ∃ (p : Addr), vs = [.ref p, .bl true] ∧ PoolAt H p ∧
  ∀ H' e ns rw ad, But p H H' → H' e = some (.dK (kvsOf ns ad)) → RowsT K H' ns rw ad → Good ns rw → Q (.ref e) H'
abbrev nDraw : List Str := ["pool", "rings", "names", "found", "at", "name", "others", "other"]
theorem scDraw : FnScope nDraw ["pool", "rings"] (defScope sNeeds) := ⟨rfl, rfl, rfl, by decide +kernel, rfl, by decide +kernel, by decide +kernel⟩
theorem ok_draw {f fT fO : Addr} {fd fdT fdO : FuncData} (F : Fun K "_law_needs" "_law_needs" sNeeds f fd) (B : Bt mg) (GT : Gf K mg "_law_take" sTake ["pool", "many"] fT fdT) (GO : Gf K mg "_law_one" sOne ["pool", "some"] fO fdO) :
    FnOk P w K mg base CX0 3 f fd ["pool", "rings"] (spDraw K) := by
  have T1 : FnOk P w K mg base CX0 1 fT fdT ["pool", "many"] spTake := ok_take GT.F B.int
  have O2 : FnOk P w K mg base CX0 2 fO fdO ["pool", "some"] (spOne K) := ok_one GO.F B.int B.len GT
  refine F.ok scDraw (fun vs H Q E h => ?_) (fun cdv A outer s H vs Q E hr h => ?_)
  · obtain ⟨p, rfl, _⟩ := h
    rfl
  · obtain ⟨p, rfl, hp, k⟩ := h
    have nd := scDraw.nd
    refine ⟨_, pss_cons (ps_set (i := 2) nd rfl (Or.inl rfl) (pe_call O2 (hr.mono (by decide)) rfl GO.g GO.F.kp GO.b .nil pass0 (pa_cons (pv 0) (pa_cons (pe_lst
          (pa_cons (pe_lst (pa_cons pe_str (pa_cons pe_str (pa_cons pe_str pa_nil)))) (pa_cons (pe_lst (pa_cons pe_str (pa_cons pe_str (pa_cons pe_str pa_nil)))) (pa_cons (pe_lst (pa_cons pe_str (pa_cons pe_str (pa_cons pe_str (pa_cons pe_str pa_nil)))))
          (pa_cons (pe_lst (pa_cons pe_str pa_nil)) (pa_cons (pe_lst (pa_cons pe_str (pa_cons pe_str pa_nil))) pa_nil)))))) pa_nil))))
      (pss_cons (ps_set (i := 3) nd rfl (Or.inl rfl) pe_dnewK)
      (pss_cons (ps_for PassesOwn.never rfl (pi_enum (by rfl) B.enum (pa_cons (pv 2) pa_nil)) (pg_tup rfl (pgs_cons (pg_name (i := 4) nd rfl (Or.inl rfl)) (pgs_cons (pg_name (i := 5) nd rfl (Or.inl rfl)) pgs_nil)))
        (pss_cons (ps_set (i := 6) nd rfl (Or.inl rfl) (pe_ifExp (pt_val (pv 1)) (pv 2) pe_nev))
        (pss_one (ps_dput (hu_of hr) (pv 3) (pv 5) (pe_tupleOf (by rfl) B.tuple (pe_lc (own := [("other", 7)]) (g := gName 7) (by rfl) nd (pi_list (pv 6)) (blkOk_by (own := [("other", 7)]) (N := nDraw) (sc := defScope sNeeds) (by decide +kernel))
            (fun _ _ _ _ _ => pg_name (i := 7) nd rfl (Or.inl rfl)) (fun _ _ _ _ _ => pts_one (pt_cmpR op_eq (pe_call T1 (hr.mono (by decide)) rfl GT.g GT.F.kp GT.b .nil pass0 (pa_cons (pv 0) (pa_cons pe_int pa_nil))) pe_int (by rfl))) (fun _ _ _ _ _ => pv 7))) rfl))))
      (pss_one (ps_ret (pv 3))))), ?_⟩
    have sz : (100000 : Nat) < sizeLine := by decide
    refine ⟨_, rfl, (by show 3 ≤ sizeLine; omega), fun a1 h1 => ?_⟩
    have s1 : Same H (upd H a1 (.lst ((["a", "b", "c"] : List Str).map V.str))) := Same.new (Same.refl _) h1
    have f1 : (upd H a1 (.lst ((["a", "b", "c"] : List Str).map V.str))) a1 = _ := upd_same
    change (tLst _) _ (upd H a1 (.lst ((["a", "b", "c"] : List Str).map V.str))) _
    generalize upd H a1 (.lst ((["a", "b", "c"] : List Str).map V.str)) = H1 at s1 f1 ⊢
    refine ⟨(by show 3 ≤ sizeLine; omega), fun a2 h2 => ?_⟩
    have s2 : Same H1 (upd H1 a2 (.lst ((["y", "x", "zz"] : List Str).map V.str))) := Same.new (Same.refl _) h2
    have f2 : (upd H1 a2 (.lst ((["y", "x", "zz"] : List Str).map V.str))) a2 = _ := upd_same
    change (tLst _) _ (upd H1 a2 (.lst ((["y", "x", "zz"] : List Str).map V.str))) _
    generalize upd H1 a2 (.lst ((["y", "x", "zz"] : List Str).map V.str)) = H2 at s2 f2 ⊢
    refine ⟨(by show 4 ≤ sizeLine; omega), fun a3 h3 => ?_⟩
    have s3 : Same H2 (upd H2 a3 (.lst ((["p", "q", "r", "s"] : List Str).map V.str))) := Same.new (Same.refl _) h3
    have f3 : (upd H2 a3 (.lst ((["p", "q", "r", "s"] : List Str).map V.str))) a3 = _ := upd_same
    change (tLst _) _ (upd H2 a3 (.lst ((["p", "q", "r", "s"] : List Str).map V.str))) _
    generalize upd H2 a3 (.lst ((["p", "q", "r", "s"] : List Str).map V.str)) = H3 at s3 f3 ⊢
    refine ⟨(by show 1 ≤ sizeLine; omega), fun a4 h4 => ?_⟩
    have s4 : Same H3 (upd H3 a4 (.lst ((["abcdefgh"] : List Str).map V.str))) := Same.new (Same.refl _) h4
    have f4 : (upd H3 a4 (.lst ((["abcdefgh"] : List Str).map V.str))) a4 = _ := upd_same
    change (tLst _) _ (upd H3 a4 (.lst ((["abcdefgh"] : List Str).map V.str))) _
    generalize upd H3 a4 (.lst ((["abcdefgh"] : List Str).map V.str)) = H4 at s4 f4 ⊢
    refine ⟨(by show 2 ≤ sizeLine; omega), fun a5 h5 => ?_⟩
    have s5 : Same H4 (upd H4 a5 (.lst ((["m", "n"] : List Str).map V.str))) := Same.new (Same.refl _) h5
    have f5 : (upd H4 a5 (.lst ((["m", "n"] : List Str).map V.str))) a5 = _ := upd_same
    refine ⟨(by show 5 ≤ sizeLine; omega), fun q hq => ?_⟩
    have hq' : (upd H4 a5 (.lst ((["m", "n"] : List Str).map V.str))) q = none := hq
    have s6 : Same (upd H4 a5 (.lst ((["m", "n"] : List Str).map V.str))) (upd (upd H4 a5 (.lst ((["m", "n"] : List Str).map V.str))) q (.lst [V.ref a1, V.ref a2, V.ref a3, V.ref a4, V.ref a5])) := Same.new (Same.refl _) hq'
    have s56 : Same H4 (upd (upd H4 a5 (.lst ((["m", "n"] : List Str).map V.str))) q (.lst [V.ref a1, V.ref a2, V.ref a3, V.ref a4, V.ref a5])) := Same.trans s5 s6
    have f5' := s6 _ _ f5
    have f4' := s56 _ _ f4
    have f3' := s56 _ _ (s4 _ _ f3)
    have f2' := s56 _ _ (s4 _ _ (s3 _ _ f2))
    have f1' := s56 _ _ (s4 _ _ (s3 _ _ (s2 _ _ f1)))
    have sA : Same H (upd (upd H4 a5 (.lst ((["m", "n"] : List Str).map V.str))) q (.lst [V.ref a1, V.ref a2, V.ref a3, V.ref a4, V.ref a5])) := Same.trans s1 (Same.trans s2 (Same.trans s3 (Same.trans s4 s56)))
    have hp5 : PoolAt (upd H4 a5 (.lst ((["m", "n"] : List Str).map V.str))) p := hp.same (Same.trans s1 (Same.trans s2 (Same.trans s3 (Same.trans s4 s5))))
    have hqp : q ≠ p := hp5.ne hq'
    refine ⟨p, q, [V.ref a1, V.ref a2, V.ref a3, V.ref a4, V.ref a5], rfl, hp.same sA, .inl (.inl upd_same), (by show 0 < 5; decide), (by show 5 < 1000; decide), hqp.symm, fun v H7 hv hp7 hb7 => ?_⟩
    have key : ∃ (a : Addr) (names : List Str), v = .ref a ∧ names ∈ theLists ∧ H a = none ∧ (upd (upd H4 a5 (.lst ((["m", "n"] : List Str).map V.str))) q (.lst [V.ref a1, V.ref a2, V.ref a3, V.ref a4, V.ref a5])) a = some (.lst (names.map V.str)) := by
      have back : ∀ {Ha : Hp} {a : Addr}, Same H Ha → Ha a = none → H a = none := fun {Ha} {a} s h => by
        cases e : H a with
        | none => rfl
        | some o => rw [s _ _ e] at h; cases h
      simp only [List.mem_cons, List.not_mem_nil, or_false] at hv
      rcases hv with rfl | rfl | rfl | rfl | rfl
      · exact ⟨a1, _, rfl, by decide +kernel, h1, f1'⟩
      · exact ⟨a2, _, rfl, by decide +kernel, back s1 h2, f2'⟩
      · exact ⟨a3, _, rfl, by decide +kernel, back (Same.trans s1 s2) h3, f3'⟩
      · exact ⟨a4, _, rfl, by decide +kernel, back (Same.trans s1 (Same.trans s2 s3)) h4, f4'⟩
      · exact ⟨a5, _, rfl, by decide +kernel, back (Same.trans s1 (Same.trans s2 (Same.trans s3 s4))) h5, f5'⟩
    obtain ⟨a, names, rfl, hnl, hna, hfa⟩ := key
    have ha : a ≠ p := hp.ne hna
    have L := listOk hnl
    have l5 := L.hi
    have fa7 := hb7 _ _ hfa ha
    have b7 : But p H H7 := But.trans (Same.but sA) hb7
    clear hb7 hfa f1' f2' f3' f4' f5'
    refine fun e1 he1 => ?_
    have s8 : Same H7 (upd H7 e1 (.dK [])) := Same.new (Same.refl _) he1
    have hee : e1 ≠ p := hp7.ne he1
    refine ⟨_, rfl, a, _, rfl, .inl (.inl (s8 _ _ fa7)), ?_⟩
    refine for_it (walk_enum (xs := names.map V.str)) (fun i σ H' => ∃ v4 v5 v6, σ = [some (.ref p), some (.bl true), some (.ref a), some (.ref e1), v4, v5, v6, none] ∧ But p H H' ∧ PoolAt H' p ∧ H' a = some (.lst (names.map V.str)) ∧ ∃ rw ad, H' e1 = some (.dK (kvsOf (names.take i) ad)) ∧ ∀ n, n ∈ names.take i → SqT K H' (ad n) ((rw n).map V.str) ∧ (rw n).Sublist names)
      ⟨none, none, none, rfl, But.trans b7 (Same.but s8), hp7.same s8, s8 _ _ fa7, fun _ => [], fun _ => 0, by rw [List.take_zero]; exact upd_same, fun n hn => by rw [List.take_zero] at hn; cases hn⟩ (fun i σ H' _ p => by obtain ⟨_, _, _, _, _, _, h, _⟩ := p; exact .inl (.inl h)) ?_ ?_
    · rintro i y σ1 H9 H10 hi ⟨v4, v5, v6, rfl, b9, hp9, fa9, rw_, ad, hd9, hr9⟩ ⟨Tp, x, z, rfl, hT, rfl, hx, hz⟩
      cases hx
      obtain ⟨n, hn, rfl⟩ := at_str hz
      rw [List.length_map] at hi
      have sT : Same H9 (upd H9 Tp (.tup [.int (i : Nat), .str n])) := Same.new (Same.refl _) hT
      refine ⟨Tp, _, rfl, .inl (.inl upd_same), rfl, _, _, rfl, _, _, rfl, rfl, ?_⟩
      have b10 : But p H (upd H9 Tp (.tup [.int (i : Nat), .str n])) := But.trans b9 (Same.but sT)
      have hp10 := hp9.same sT
      have fa10 := sT _ _ fa9
      have hd10 := sT _ _ hd9
      have hr10 : ∀ n', n' ∈ names.take i → SqT K (upd H9 Tp (.tup [.int (i : Nat), .str n])) (ad n') ((rw_ n').map V.str) ∧ (rw_ n').Sublist names := fun n' h' => ⟨sqT_same sT (hr9 n' h').1, (hr9 n' h').2⟩
      generalize upd H9 Tp (.tup [.int (i : Nat), .str n]) = H10 at b10 hp10 fa10 hd10 hr10 ⊢
      refine ⟨_, rfl, true, rfl, iteT ⟨_, rfl, ?_⟩⟩
      refine ⟨_, rfl, a, rfl, ⟨_, .inl (.inl fa10)⟩, fun D hD => ?_⟩
      have hDp : D ≠ p := hp10.ne hD
      refine lc_it (walk_list (xs := names.map V.str)) (fun j H' => But p H10 H' ∧ PoolAt H' p ∧ ∃ xs : List Str, H' D = some (.lst (xs.map V.str)) ∧ xs.length ≤ j ∧ xs.Sublist (names.take j))
        ⟨Same.but (Same.new (Same.refl _) hD), hp10.same (Same.new (Same.refl _) hD), [], upd_same, Nat.le_refl _, List.nil_sublist _⟩ (fun j H' _ p => .inl (.inl (p.1 _ _ fa10 ha))) ?_ ?_
      · rintro j y H11 H12 hj ⟨b11, hp11, xs, hxs, hxl, hsub⟩ ⟨rfl, hy⟩
        obtain ⟨o, ho, rfl⟩ := at_str hy
        rw [List.length_map] at hj
        have tk : names.take (j + 1) = names.take j ++ [o] := by rw [List.take_succ, ho]; rfl
        refine ⟨rfl, _, rfl, p, 3, rfl, hp11, by decide, by decide, fun v H13 hv0 hv3 hp13 hb13 => ⟨rfl, _, rfl, ?_⟩⟩
        have hxs13 := hb13 _ _ hxs hDp
        refine ite2 (fun _ => ?_) (fun _ => ?_)
        · refine ⟨_, rfl, _, hxs13, by rw [List.length_map]; omega, ?_, hp13.upd hDp, xs ++ [o], by rw [List.map_append]; exact upd_same, by rw [List.length_append]; simp; omega, ?_⟩
          · intro c oc ec hc
            rw [upd_ne (ne_of_none ec hD)]
            exact hb13 _ _ (b11 _ _ ec hc) hc
          · rw [tk]
            exact hsub.append (List.Sublist.refl _)
        · refine ⟨But.trans b11 hb13, hp13, xs, hxs13, by omega, ?_⟩
          rw [tk]
          exact hsub.trans (List.sublist_append_left _ _)
      rintro H11 ⟨b11, hp11, xs, hxs, hxl, hsub⟩
      rw [List.length_map] at hsub hxl
      rw [List.take_length] at hsub
      refine .inl ⟨D, _, rfl, .inl (.inl hxs), fun u hu => ?_⟩
      have su : Same H11 (upd H11 u (.tup (xs.map V.str))) := Same.new (Same.refl _) hu
      have hd11 := su _ _ (b11 _ _ hd10 hee)
      have nin : ¬ n ∈ names.take i := fun z => by
        obtain ⟨j, hj, e⟩ := List.getElem_of_mem z
        rw [List.length_take] at hj
        rw [List.getElem_take] at e
        have hjl : j < names.length := by omega
        have h1 : names[i] = n := by
          have := List.getElem?_eq_getElem hi
          rw [hn] at this
          exact (Option.some.inj this).symm
        have := List.pairwise_iff_getElem.mp L.nd j i hjl hi (by omega)
        exact this (by rw [e, h1])
      have tk1 : names.take (i + 1) = names.take i ++ [n] := by rw [List.take_succ, hn]; rfl
      have hae : a ≠ e1 := fun z => by rw [z, hd10] at fa10; cases fa10
      refine ⟨_, rfl, _, rfl, e1, _, rfl, .inl ⟨_, Sum.inr n, hd11, rfl, ?_, rfl⟩, _, _, _, rfl, ?_⟩
      · rw [kvsOf_len, List.length_take]; omega
      refine ⟨fun c oc ec hc => ?_, (hp11.same su).upd hee, ?_, fun m => if m = n then xs else rw_ m, fun m => if m = n then u else ad m, ?_, fun m hm => ?_⟩
      · have e0 : c ≠ e1 := fun z => by
          subst z
          have hH : H c = none := by
            cases e : H c with
            | none => rfl
            | some o => rw [b7 _ _ e hee] at he1; cases he1
          rw [hH] at ec
          cases ec
        rw [upd_ne e0]
        exact su _ _ (b11 _ _ (b10 _ _ ec hc) hc)
      · rw [upd_ne hae]
        exact su _ _ (b11 _ _ fa10 ha)
      · rw [kvsOf_snoc nin, tk1]
        exact upd_same
      · rw [tk1] at hm
        rcases List.mem_append.mp hm with hm | hm
        · have ne : ¬ m = n := fun z => nin (by rw [← z]; exact hm)
          show SqT K _ (if m = n then u else ad m) ((if m = n then xs else rw_ m).map V.str) ∧ (if m = n then xs else rw_ m).Sublist names
          rw [if_neg ne, if_neg ne]
          exact ⟨sqT_updD hd11 (sqT_same su (seqT_pool hp10 b11 (hr10 m hm).1)), (hr10 m hm).2⟩
        · rw [List.mem_singleton.mp hm]
          show SqT K _ (if n = n then u else ad n) ((if n = n then xs else rw_ n).map V.str) ∧ (if n = n then xs else rw_ n).Sublist names
          rw [if_pos rfl, if_pos rfl]
          exact ⟨sqT_updD hd11 (.inl (.inl upd_same)), hsub⟩
    · rintro σ1 H9 ⟨v4, v5, v6, rfl, b9, hp9, fa9, rw_, ad, hd9, hr9⟩
      rw [List.length_map, List.take_length] at hd9 hr9
      exact ⟨_, rfl, k _ e1 names rw_ ad b9 hd9 (fun n hn => (hr9 n hn).1) ⟨L.nd, L.lo, l5, L.nm, fun n hn => (hr9 n hn).2.nodup L.nd, fun n hn m hm => (hr9 n hn).2.subset hm⟩⟩
end
end Fm
set_option Elab.async false
set_option linter.all false
set_option maxRecDepth 100000
namespace Fm
open PySem L2 PySem.Spec
theorem okCut_iff {ns : List Str} {rw : Str → List Str} {c : List Pr} : okCut ns rw c = true ↔ ¬ Stuck ns (rwCut rw c) := by unfold okCut; exact @decide_eq_true_iff (¬ Stuck ns (rwCut rw c)) (@instDecidableNot _ (Classical.propDecidable _))
theorem okCut_srt (ns : List Str) (rw : Str → List Str) : okCut (srt ns) rw = okCut ns rw := by
  funext c
  have e : Stuck (srt ns) (rwCut rw c) ↔ Stuck ns (rwCut rw c) := ⟨fun h => h.of (fun n hn => srt_mem.mp hn) fun _ _ _ hm => hm, fun h => h.of (fun n hn => srt_mem.mpr hn) fun _ _ _ hm => hm⟩
  cases h : okCut ns rw c with
  | true => exact okCut_iff.mpr fun z => okCut_iff.mp h (e.mp z)
  | false =>
    cases h2 : okCut (srt ns) rw c with
    | false => rfl
    | true =>
      have := okCut_iff.mpr fun z => okCut_iff.mp h2 (e.mpr z)
      rw [h] at this
      cases this
theorem answer_eq (ns : List Str) (rw : Str → List Str) : leastCuts (okCut (srt ns) rw) (onRings (srt ns) rw) = answer ns rw := by
  unfold answer
  rw [okCut_srt]
section
variable {P : Program} {w : World} {K : PySem.W.Frag} {mg : Str → Option Value} {base : Heap}
/-! ### _law_due -/
def spDue (K : PySem.W.Frag) : Sp := fun vs H Q _ => ∃ (e : Addr) (ns : List Str) (rw : Str → List Str) (ad : Str → Addr), vs = [.ref e] ∧ H e = some (.dK (kvsOf ns ad)) ∧ RowsT K H ns rw ad ∧ Good ns rw ∧ (onRings (srt ns) rw).length ≤ 8 ∧
  ∀ H' D us, Same H H' → H' D = some (.lst us) → DpAll K H' us ((answer ns rw).map cutD) → Q (.ref D) H'
abbrev nDue : List Str := ["needs", "pairs", "many", "found", "some", "cut", "at"]
theorem scDue : FnScope nDue ["needs"] (defScope sDue) := ⟨rfl, rfl, rfl, by decide +kernel, rfl, by decide +kernel, by decide +kernel⟩
theorem ok_due {f fO fS fH fC : Addr} {fd fdO fdS fdH fdC : FuncData} (F : Fun K "_law_due" "_law_due" sDue f fd) (B : Bt mg) (GO : Gf K mg "_law_on_rings" sOnRings ["needs"] fO fdO) (GS : Gf K mg "_law_sets" sSets ["size", "many"] fS fdS)
    (GH : Gf K mg "_law_has_ring" sHasRing ["needs"] fH fdH) (GC : Gf K mg "_law_cut" sCut ["needs", "pairs"] fC fdC) : FnOk P w K mg base CX0 2 f fd ["needs"] (spDue K) := by
  have O1 : FnOk P w K mg base CX0 1 fO fdO ["needs"] (spOnR K) := ok_onR GO.F B
  have S1 : FnOk P w K mg base CX0 1 fS fdS ["size", "many"] (spSets K) := ok_sets GS.F B
  have H1 : FnOk P w K mg base CX0 1 fH fdH ["needs"] (spRing K) := ok_ring GH.F B
  have C1 : FnOk P w K mg base CX0 1 fC fdC ["needs", "pairs"] (spLCut K) := ok_lcut GC.F B
  refine F.ok scDue (fun vs H Q E h => ?_) (fun cdv A outer s H vs Q E hr h => ?_)
  · obtain ⟨e, ns, rw_, ad, rfl, _⟩ := h
    rfl
  · obtain ⟨e, ns, rw_, ad, rfl, he, R, G, le8, k⟩ := h
    have nd := scDue.nd
    refine ⟨_, pss_cons (ps_set (i := 1) nd rfl (Or.inr rfl) (pe_call O1 hr rfl GO.g GO.F.kp GO.b .nil pass0 (pa_cons (pv 0) pa_nil)))
      (pss_cons (ps_for PassesOwn.never rfl (pi_range1 (by rfl) B.range (pa_cons (pe_op op_add (pe_callB call_len_seq (by rfl) B.len PySem.boot_len (pa_cons (pv 1) pa_nil)) pe_int) pa_nil)) (pg_name (i := 2) nd rfl (Or.inl rfl))
        (pss_cons (ps_set (i := 3) nd rfl (Or.inl rfl) (pe_lst pa_nil))
        (pss_cons (ps_for PassesOwn.never rfl (pi_list (pe_call S1 hr rfl GS.g GS.F.kp GS.b .nil pass0 (pa_cons (pe_callB call_len_seq (by rfl) B.len PySem.boot_len (pa_cons (pv 1) pa_nil)) (pa_cons (pv 2) pa_nil)))) (pg_name (i := 4) nd rfl (Or.inl rfl))
          (pss_cons (ps_set (i := 5) nd rfl (Or.inl rfl) (pe_tupleOf (by rfl) B.tuple (pe_lc (own := [("at", 6)]) (g := gName 6) (by rfl) nd (pi_tup (pv 4)) (blkOk_by (own := [("at", 6)]) (N := nDue) (sc := defScope sDue) (by decide +kernel))
              (fun _ _ _ _ _ => pg_name (i := 6) nd rfl (Or.inl rfl)) (fun _ _ _ _ _ => pts_nil) (fun _ _ _ _ _ => pe_ix (r := rIxL K) ix_list (pv 1) (pv 6) (fun _ _ => rfl)))))
          (pss_one (ps_if (pt_not (pt_val (pe_call H1 hr rfl GH.g GH.F.kp GH.b .nil pass0 (pa_cons (pe_call C1 hr rfl GC.g GC.F.kp GC.b .nil pass0 (pa_cons (pv 0) (pa_cons (pv 5) pa_nil))) pa_nil))))
            (pss_one (ps_expr (pe_bm PySem.F.plainAttrs_list PySem.F.slot_list_append PySem.F.type_list_append mt_append (pv 3) (pa_cons (pv 5) pa_nil)))) pss_nil))))
        (pss_one (ps_if (pt_cmpR (op_neD hr.units) (pv 3) (pe_lst pa_nil) (nomark _)) (pss_one (ps_ret (pv 3))) pss_nil)))))
      (pss_one (ps_ret (pe_lst pa_nil)))), ?_⟩
    have l5 := G.hi
    have sz : (100000 : Nat) < sizeLine := by decide
    have sub : ∀ p, p ∈ onRings (srt ns) rw_ → PrOk p := fun p hp => (G.perm (srt_perm ns)).pr (List.mem_filter.mp hp).1
    refine ⟨_, rfl, e, ns, rw_, ad, rfl, he, R, G, fun H1 D us1 s1 hu1 hp1 => ?_⟩
    unfold answer at k
    generalize onRings (srt ns) rw_ = ps at *
    have e1 := dpAll_length hp1
    rw [List.length_map] at e1
    refine ⟨_, rfl, D, us1, rfl, .inl (.inl (.inl hu1)), _, _, rfl, rfl, (ps.length + 1 : Nat), ?_, by omega, by omega, ?_⟩
    · rw [e1]; rfl
    have en : (((ps.length + 1 : Nat) : Int)).toNat = ps.length + 1 := by omega
    rw [en]
    refine for_it walk_range (fun i σ H' => ∃ v2 v3 v4 v5, σ = [some (.ref e), some (.ref D), v2, v3, v4, v5, none] ∧ Same H1 H' ∧ ∀ j, j < i → cutsOf (okCut ns rw_) ps j = []) ⟨none, none, none, none, rfl, Same.refl _, fun j hj => absurd hj (Nat.not_lt_zero _)⟩ (fun _ _ _ _ _ => trivial) ?_ ?_
    · rintro i y σ1 H2 H3 hi ⟨v2, v3, v4, v5, rfl, s3, hno⟩ ⟨rfl, rfl⟩
      refine ⟨Nat.zero_le _, fun q hq => ?_⟩
      have sq : Same H3 (upd H3 q (.lst [])) := Same.new (Same.refl _) hq
      have hq4 : (upd H3 q (.lst [])) q = some (.lst []) := upd_same
      generalize upd H3 q (.lst []) = H4 at sq hq4 ⊢
      have hu4 := sq _ _ (s3 _ _ hu1)
      refine ⟨_, rfl, D, us1, rfl, .inl (.inl (.inl hu4)), _, rfl, ps.length, i, ?_, le8, by omega, fun H5 D5 us5 hDn s5 hD5 hp5 => ?_⟩
      · show [V.int (us1.length : Nat), V.int (0 + (i : Int))] = _
        rw [e1, Int.zero_add]
      have e5 := dpAll_length hp5
      rw [List.length_map] at e5
      have b5 := rising_len i 0 ps.length
      have b6 := pow8 (n := ps.length - 0) (by omega)
      have hq5 := s5 _ _ hq4
      have hDq : D5 ≠ q := fun z => by rw [z, hq4] at hDn; cases hDn
      have rm : ∀ r, r ∈ rising i 0 ps.length → ∀ a, a ∈ r → a < ps.length := fun r hr => rising_mem hr
      have rl0 : ∀ r, r ∈ rising i 0 ps.length → r.length = i := fun r hr => rising_size hr
      have hcut : cutsOf (okCut ns rw_) ps i = (((rising i 0 ps.length)).map (pick ps)).filter (okCut ns rw_) := rfl
      generalize rising i 0 ps.length = rs at *
      have s05 : Same H H5 := Same.trans s1 (Same.trans s3 (Same.trans sq s5))
      have hqH : H q = none := none_back (Same.trans s1 s3) hq
      have hqn1 : H1 q = none := none_back s3 hq
      refine ⟨D5, rfl, ⟨_, .inl (.inl hD5)⟩, ?_⟩
      refine for_it (walk_list (xs := us5)) (fun j σ H' => ∃ v2 v4 v5, σ = [some (.ref e), some (.ref D), v2, some (.ref q), v4, v5, none] ∧ But q H5 H' ∧ ∃ us, H' q = some (.lst us) ∧ DpAll K H' us ((((rs.take j).map (pick ps)).filter (okCut ns rw_)).map cutD))
        ⟨_, _, _, rfl, But.refl _ _, [], hq5, by rw [List.take_zero]; exact .nil⟩ (fun j σ H' _ p => by obtain ⟨_, _, _, _, b, _⟩ := p; exact .inl (.inl (b _ _ hD5 hDq))) ?_ ?_
      · rintro j y σ1 H6 H7 hj ⟨v2', v4', v5', rfl, b6, us, hus, hps⟩ ⟨rfl, hy⟩
        have s07 : Same H H7 := But.sameOf s05 hqH b6
        have s17 : Same H1 H7 := But.sameOf (Same.trans s3 (Same.trans sq s5)) hqn1 b6
        have hp5' : DpAll K H7 us5 (rs.map risD) := by
          have t : tlessAll (rs.map risD) = true := tlessAll_iff.mpr fun d hd => by
            obtain ⟨r, _, rfl⟩ := List.mem_map.mp hd
            exact tless_ris r
          refine dpAll_keepT (fun a xs h => ?_) _ _ t hp5
          rcases h with (h | ⟨o, h⟩) | h
          · exact .inl (.inl (b6 _ _ h (ne_of h hq5 (by intro z; cases z))))
          · exact .inl (.inr ⟨o, b6 _ _ h (ne_of h hq5 (by intro z; cases z))⟩)
          · exact .inr h
        obtain ⟨d, hd, hdp⟩ := dpAll_get' hp5' hy
        obtain ⟨r, hr', rfl⟩ := at_map hd
        obtain ⟨b, rfl, hb⟩ := risD_dp hdp
        have hrm := List.mem_of_getElem? hr'
        have rl := rl0 r hrm
        have hu7 := s17 _ _ hu1
        have hp7 := dpAll_same s17 hp1
        refine ⟨_, rfl, b, rfl, ⟨_, hb⟩, fun D6 hD6 => ?_⟩
        refine lc_data (K := K) (walk_tup (xs := r.map fun i => V.int (i : Nat))) hD6 (fun j => r[j]?.bind fun a => (ps[a]?).map prD) (by rw [List.length_map]; omega) (fun H' s' => sqT_same s' hb) (fun j _ e he => bind_tless (fun a e h => ?_) he) ?_ ?_
        · cases q : ps[a]? with
          | none => rw [q] at h; cases h
          | some p => rw [q] at h; cases h; exact tless_pr p
        · rintro l z H8 H9 kt' kf' hl s8 _ ⟨rfl, hz⟩ kT' _
          rw [List.getElem?_map] at hz
          obtain ⟨a, ha, rfl⟩ : ∃ a, r[l]? = some a ∧ z = V.int (a : Nat) := by
            cases q : r[l]? with
            | none => rw [q] at hz; cases hz
            | some a => rw [q] at hz; cases hz; exact ⟨a, rfl, rfl⟩
          have al := rm r hrm a (List.mem_of_getElem? ha)
          obtain ⟨p, hp⟩ : ∃ p, ps[a]? = some p := ⟨_, List.getElem?_eq_getElem al⟩
          obtain ⟨v, hv, hdv⟩ := dpAll_get (dpAll_same s8 hp7) (show (ps.map prD)[a]? = some (prD p) by rw [List.getElem?_map, hp]; rfl)
          refine ⟨rfl, _, rfl, _, rfl, D, us1, (a : Int), v, rfl, rfl, .inl (.inl (s8 _ _ hu7)), atI_nat hv, kT' _ _ (prD p) ?_ (Same.refl _) hdv⟩
          rw [ha]
          show (ps[a]?).map prD = _
          rw [hp]
          rfl
        intro H8 us8 s8 hu8 hp8
        rw [List.length_map, range_map] at hp8
        have ep : (r.filterMap fun a => (ps[a]?).map prD) = (pick ps r).map prD := by unfold pick; rw [List.map_filterMap]
        rw [ep] at hp8
        refine .inl ⟨D6, us8, rfl, .inl (.inl hu8), fun u hu => ?_⟩
        have su : Same H8 (upd H8 u (.tup us8)) := Same.new (Same.refl _) hu
        have hut : SqT K (upd H8 u (.tup us8)) u us8 := .inl (.inl upd_same)
        generalize upd H8 u (.tup us8) = H9 at su hut ⊢
        have hp9 := dpAll_same su hp8
        have s79 : Same H7 H9 := Same.trans s8 su
        have s09 : Same H H9 := Same.trans s07 s79
        have cok : ∀ p, p ∈ pick ps r → PrOk p := fun p hp => by
          obtain ⟨a, _, ha⟩ := List.mem_filterMap.mp hp
          exact sub p (List.mem_of_getElem? ha)
        have tk : rs.take (j + 1) = rs.take j ++ [r] := by rw [List.take_succ, hr']; rfl
        refine ⟨_, rfl, _, rfl, e, u, ns, rw_, ad, us8, pick ps r, rfl, s09 _ _ he, R.same s09, G, hut, hp9, cok, fun H10 e' ad' s10 he' R' => ?_⟩
        refine ⟨e', ns, rwCut rw_ (pick ps r), ad', rfl, he', R', G.cut _, fun H11 bb s11 hbb => ⟨bb, rfl, ?_⟩⟩
        have s911 : Same H9 H11 := Same.trans s10 s11
        have ebb : (!bb) = okCut ns rw_ (pick ps r) := by
          cases bb with
          | true =>
            cases h : okCut ns rw_ (pick ps r) with
            | false => rfl
            | true => exact (okCut_iff.mp h (hbb.mp rfl)).elim
          | false => exact (okCut_iff.mpr fun z => by have := hbb.mpr z; cases this).symm
        have hus11 := s911 _ _ (s79 _ _ hus)
        have b11 : But q H5 H11 := But.trans b6 (Same.but (Same.trans s79 s911))
        have hps11 := dpAll_same (Same.trans s79 s911) hps
        show if (!bb) = true then _ else _
        rw [ebb]
        cases eo : okCut ns rw_ (pick ps r) with
        | true =>
          have lens := dpAll_length hps11
          rw [List.length_map] at lens
          have l2 := List.length_filter_le (okCut ns rw_) ((rs.take j).map (pick ps))
          rw [List.length_map, List.length_take] at l2
          refine iteT ⟨_, rfl, .inl ⟨rfl, _, .inl (.inl hus11)⟩, _, rfl, q, us, .ref u, rfl, rfl, hus11, by omega, ?_⟩
          refine ⟨_, _, _, rfl, But.trans b11 But.upd, us ++ [.ref u], upd_same, ?_⟩
          rw [tk, List.map_append, List.filter_append, List.map_append]
          have e9 : (([r].map (pick ps)).filter (okCut ns rw_)).map cutD = [cutD (pick ps r)] := by
            show (([pick ps r]).filter (okCut ns rw_)).map cutD = _
            rw [List.filter_cons, if_pos eo]; rfl
          rw [e9]
          have tl : tlessAll ((((rs.take j).map (pick ps)).filter (okCut ns rw_)).map cutD) = true := tlessAll_iff.mpr fun d hd => by
            obtain ⟨c, _, rfl⟩ := List.mem_map.mp hd
            exact tless_cut c
          exact dpAll_append (dpAll_updL hus11 tl hps11) (.cons (dp_updL hus11 (tless_cut _) (.tup (sqT_same s911 hut) (dpAll_same s911 hp9))) .nil)
        | false =>
          refine iteF ⟨_, _, _, rfl, b11, us, hus11, ?_⟩
          rw [tk, List.map_append, List.filter_append, List.map_append]
          have e9 : (([r].map (pick ps)).filter (okCut ns rw_)).map cutD = [] := by
            show (([pick ps r]).filter (okCut ns rw_)).map cutD = _
            rw [List.filter_cons, if_neg (by rw [eo]; decide)]; rfl
          rw [e9, List.append_nil]
          exact hps11
      · rintro σ1 H6 ⟨v2', v4', v5', rfl, b6, us, hus, hps⟩
        have e5' : us5.length = rs.length := e5
        rw [e5', List.take_length, ← hcut] at hps
        have s16 : Same H1 H6 := But.sameOf (Same.trans s3 (Same.trans sq s5)) hqn1 b6
        have cp : ∀ c, c ∈ cutsOf (okCut ns rw_) ps i → ∀ p, p ∈ c → PrOk p := fun c hc p hp => by
          rw [hcut] at hc
          obtain ⟨r, _, rfl⟩ := List.mem_map.mp (List.mem_filter.mp hc).1
          obtain ⟨a, _, ha⟩ := List.mem_filterMap.mp hp
          exact sub p (List.mem_of_getElem? ha)
        refine ⟨_, rfl, Nat.zero_le _, fun u hu => ?_⟩
        have su : Same H6 (upd H6 u (.lst [])) := Same.new (Same.refl _) hu
        refine ⟨_, _, dp_list (su _ _ hus) (dpAll_same su hps), dp_nil upd_same, (Lv.list (k := 2) (lv_cuts cp)).shaped (by decide), shaped_nil, _, rfl, ?_⟩
        rw [eqv_empty]
        cases ek : cutsOf (okCut ns rw_) ps i with
        | nil =>
          refine iteF ⟨_, _, _, _, rfl, Same.trans s16 su, fun j hj => ?_⟩
          rcases Nat.lt_or_ge j i with h1 | h1
          · exact hno j h1
          · have : j = i := by omega
            subst this
            exact ek
        | cons c r =>
          refine iteT ⟨_, rfl, k _ q us (Same.trans s1 (Same.trans s16 su)) (su _ _ hus) ?_⟩
          have eq : leastCuts (okCut ns rw_) ps = cutsOf (okCut ns rw_) ps i := leastFrom_eq (ps.length + 1) 0 i (fun j _ hj => hno j hj) (Nat.zero_le _) (by omega) (by rw [ek]; exact List.cons_ne_nil _ _)
          rw [eq]
          exact dpAll_same su hps
    · rintro σ1 H2 ⟨v2, v3, v4, v5, rfl, s3, hno⟩
      refine ⟨Nat.zero_le _, fun q hq => ?_⟩
      have eq : leastCuts (okCut ns rw_) ps = [] := leastFrom_nil (ps.length + 1) 0 fun j _ hj => hno j (by omega)
      refine k _ q [] (Same.trans s1 (Same.new s3 hq)) upd_same ?_
      rw [eq]
      exact .nil
end
end Fm
set_option Elab.async false
set_option linter.all false
set_option maxRecDepth 100000
namespace Fm
open PySem L2 PySem.Spec
section
variable {X : Cx} {CX : CXT} {k : Nat} {f C : Addr} {fd : FuncData} {ps : List Str} {sp : Sp} {E : St → XK} {m : Str} {pos apos : Pos} {o : Expr} {ta : TE}
def tMethS0 (C : Addr) (m : Str) (sp : Sp) (E : St → XK) (ta : TE) : TE := fun σ H Q => ta σ H fun x H1 => ∃ a dx fs, x = .ref a ∧ H1 a = some (.ins C dx fs) ∧ fs.lookup m = none ∧ sp [x] H1 Q (E σ)
/-- o.m() where the call may raise within a try -/
theorem pe_meth0S {pl : Sem Bool} (he : PE X o ta) (c : Cls X.K C) (hm : Meth X.K C m f) (F : FnOk X.prog X.w X.K X.mg X.base CX k f fd ps sp) (hr : Room k X.A) (hb : Binds X.K fd ps []) (hx : ∀ σ, PassesAt CX X σ (E σ))
    (ht : eval (.Call (.Attribute o m apos) [] [] pos) X.env = (do
      let ov ← eval o X.env
      standAt apos.atName
      let (f, first) ← holding [ov] (getMethod ov m pl)
      callWith pos f first (backTo pos (starEach [] X.env)) (backToKw pos (keywordEach [] X.env))) := by rfl) :
    PE X (.Call (.Attribute o m apos) [] [] pos) (tMethS0 C m sp E ta) := by
  refine ⟨fun pins s σ H Q I h => ?_⟩
  refine PySem.W.methodCall_KW (pl := pl) (thn (he.run pins s σ H _ I h) fun u s1 ⟨x, H1, I1, rx, a, dx, fs, ex, ea, l, q⟩ => ?_) ht
  subst ex
  obtain rfl : u = Value.ref a := rx
  refine getmeth_ok I1 ea c hm l ?_
  exact PySem.W.callWith_K0 (first := [.ref a]) I1.kIn hm.kp (run_fnS (us := [.ref a]) (vs := [.ref a]) F hr hb (hx σ) I1 (.cons rfl .nil) q)
end
section
variable {P : Program} {w : World} {K : PySem.W.Frag} {mg : Str → Option Value} {base : Heap} {C : Addr}
/-! ### _law_told -/
def spTold (K : PySem.W.Frag) (C : Addr) : Sp := fun vs H Q _ => ∃ (x d : Addr) (ns : List Str) (rw : Str → List Str) (ad : Str → Addr), vs = [.ref x] ∧ NetAt K C H x d ns rw ad ∧ Good ns rw ∧ srt ns = ns ∧
  (8 < (onRings ns rw).length → ∀ H', Same H H' → Q (.int 8) H') ∧
  ((onRings ns rw).length ≤ 8 → ∀ H' D us, Same H H' → H' D = some (.lst us) → DpAll K H' us ((leastCuts (okCut ns rw) (onRings ns rw)).map cutD) → Q (.ref D) H')
theorem scTold : FnScope ["net", "e"] ["net"] (defScope sTold) := ⟨rfl, rfl, rfl, by decide +kernel, rfl, by decide +kernel, by decide +kernel⟩
theorem ok_told {f fK CM fMI cc cda : Addr} {fd fdK : FuncData} (F : Fun K "_law_told" "_law_told" sTold f fd) (T : NetK K C) (MT : ManyTxt P K mg CM fMI cc cda) (GK : Gm K C "least_cuts" "Net.least_cuts" sCuts ["self"] fK fdK)
    (K10 : FnOk P w K mg base (L2.CX P w) 10 fK fdK ["self"] (spCuts K C CM)) : FnOk P w K mg base CX0 11 f fd ["net"] (spTold K C) := by
  refine F.ok scTold (fun vs H Q E h => ?_) (fun cdv A outer s H vs Q E hr h => ?_)
  · obtain ⟨x, d, ns, rw_, ad, rfl, _⟩ := h
    rfl
  · obtain ⟨x, d, ns, rw_, ad, rfl, N, G, hsrt, k8, kL⟩ := h
    have nd := scTold.nd
    refine ⟨_, pss_one (ps_try_as (i := 1) (tb := fun W => tRet (tMethS0 C "least_cuts" (spCuts K C CM) (WE W) (tVar 0))) (ts := fun a cls d => tRet (tMost CM a cls d (tVar 1))) (Wout := fun _ _ _ _ => False) rfl rfl nd rfl rfl ⟨rfl, by decide, Or.inl MT.gC⟩ takes0
        (fun W pn xe tk _ => pss_one (ps_ret (by exact (pe_meth0S (C := C) (pv 0) T.cls GK.mt K10 hr GK.b (fun σ => passAt tk σ)))))
        (fun a oe cls d pn hz hf => pss_one (ps_ret (by exact (pe_most MT hz hf (pv 1)))))), ?_⟩
    obtain ⟨dx, hx⟩ := N.ob
    refine ⟨_, rfl, x, dx, _, rfl, hx, rows_no (by decide), x, d, ns, rw_, ad, rfl, N, G, hsrt, fun h8 H1 dd s1 hdd => ?_, fun h8 H1 D us s1 hu hp => kL h8 H1 D us s1 hu hp⟩
    refine ⟨true, MT.te, fun _ a0 _ => ?_, fun q => Bool.noConfusion q⟩
    refine ⟨_, rfl, rfl, rfl, dd, _, rfl, hdd, k8 h8 H1 s1⟩
end
end Fm
set_option Elab.async false
set_option linter.all false
set_option maxRecDepth 100000
namespace Fm
open PySem L2 PySem.Spec PyProof.Rows
abbrev sa : Str := "a"
abbrev sb : Str := "b"
abbrev sc : Str := "c"
/-! ## the three fixed nets -/
theorem srt_id {xs : List Str} (h : sortedS xs = true) : srt xs = xs := (srt_eq (List.Perm.refl xs) h).symm
theorem onRings_all {ns : List Str} {rw : Str → List Str} (h : ∀ p, p ∈ pairsOf ns rw → RT rw p.2 p.1) : onRings ns rw = pairsOf ns rw := by
  rw [onRings_eq]
  exact List.filter_eq_self.mpr fun p hp => onR_iff.mpr (h p hp)
/-- every value needs every value -/
def ns3 : List Str := [sa, sb, sc]
def rw3 : Str → List Str := fun _ => [sa, sb, sc]
theorem srt3 : srt ns3 = ns3 := srt_id (by decide +kernel)
theorem good3 : Good ns3 rw3 := by
  have h : ns3 ∈ theLists := by decide +kernel
  have L := listOk h
  exact ⟨L.nd, L.lo, L.hi, L.nm, fun n _ => L.nd, fun n _ m hm => hm⟩
theorem rings3 : 8 < (onRings ns3 rw3).length := by
  rw [onRings_all fun p hp => ?_]
  · decide +kernel
  · obtain ⟨n, hn, h⟩ := List.mem_flatMap.mp hp
    obtain ⟨m, _, rfl⟩ := List.mem_map.mp h
    exact .inr (.one hn)
/-- two values that need each other -/
def ns2 : List Str := [sa, sb]
def rw2 : Str → List Str := fun n => if n = sa then [sb] else [sa]
theorem rw2a : rw2 sa = [sb] := by decide +kernel
theorem rw2b : rw2 sb = [sa] := by decide +kernel
theorem srt2 : srt ns2 = ns2 := srt_id (by decide +kernel)
theorem mem2 {n : Str} (h : n ∈ ns2) : n = sa ∨ n = sb := by
  rcases List.mem_cons.mp h with h | h
  · exact .inl h
  · exact .inr (List.mem_singleton.mp h)
theorem good2 : Good ns2 rw2 := by
  have nb : (ns2.all fun n => nameB n) = true := by decide +kernel
  refine ⟨by decide +kernel, by decide +kernel, by decide +kernel, fun n hn => nameB_ok (List.all_eq_true.mp nb n hn), fun n hn => ?_, fun n hn m hm => ?_⟩
  · rcases mem2 hn with rfl | rfl
    · rw [rw2a]; decide +kernel
    · rw [rw2b]; decide +kernel
  · rcases mem2 hn with rfl | rfl
    · rw [rw2a] at hm
      rw [List.mem_singleton.mp hm]; decide +kernel
    · rw [rw2b] at hm
      rw [List.mem_singleton.mp hm]; decide +kernel
theorem pairs2 : pairsOf ns2 rw2 = [(sa, sb), (sb, sa)] := by decide +kernel
theorem rings2 : onRings ns2 rw2 = [(sa, sb), (sb, sa)] := by
  rw [onRings_all fun p hp => ?_, pairs2]
  rw [pairs2] at hp
  rcases List.mem_cons.mp hp with rfl | hp
  · exact .inr (.one (by decide +kernel))
  · rw [List.mem_singleton.mp hp]
    exact .inr (.one (by decide +kernel))
theorem ok2 : okCut ns2 rw2 [] = false := by
  cases h : okCut ns2 rw2 [] with
  | false => rfl
  | true =>
    refine (okCut_iff.mp h ⟨fun n => n = sa ∨ n = sb, ⟨sa, .inl rfl⟩, fun n hn => ?_⟩).elim
    rcases hn with rfl | rfl
    · exact ⟨by decide +kernel, sb, by decide +kernel, .inr rfl⟩
    · exact ⟨by decide +kernel, sa, by decide +kernel, .inl rfl⟩
theorem ok2a : okCut ns2 rw2 [(sa, sb)] = true := okCut_iff.mpr fun ⟨S, ⟨n, hn⟩, h⟩ => by
  have ea : rwCut rw2 [(sa, sb)] sa = [] := by decide +kernel
  have eb : rwCut rw2 [(sa, sb)] sb = [sa] := by decide +kernel
  have na : ¬ S sa := fun z => by
    obtain ⟨_, m, hm, _⟩ := h _ z
    rw [ea] at hm
    cases hm
  rcases mem2 (h n hn).1 with e | e
  · rw [e] at hn; exact na hn
  · rw [e] at hn
    obtain ⟨_, m, hm, hs⟩ := h _ hn
    rw [eb] at hm
    rw [List.mem_singleton.mp hm] at hs
    exact na hs
theorem ok2b : okCut ns2 rw2 [(sb, sa)] = true := okCut_iff.mpr fun ⟨S, ⟨n, hn⟩, h⟩ => by
  have ea : rwCut rw2 [(sb, sa)] sa = [sb] := by decide +kernel
  have eb : rwCut rw2 [(sb, sa)] sb = [] := by decide +kernel
  have nb : ¬ S sb := fun z => by
    obtain ⟨_, m, hm, _⟩ := h _ z
    rw [eb] at hm
    cases hm
  rcases mem2 (h n hn).1 with e | e
  · rw [e] at hn
    obtain ⟨_, m, hm, hs⟩ := h _ hn
    rw [ea] at hm
    rw [List.mem_singleton.mp hm] at hs
    exact nb hs
  · rw [e] at hn; exact nb hn
theorem answer2 : leastCuts (okCut ns2 rw2) (onRings ns2 rw2) = [[(sa, sb)], [(sb, sa)]] := by
  rw [rings2]
  have c0 : cutsOf (okCut ns2 rw2) [(sa, sb), (sb, sa)] 0 = [] := by
    show ([[]] : List (List Pr)).filter (okCut ns2 rw2) = []
    rw [List.filter_cons, ok2, if_neg (by decide)]
    rfl
  have c1 : cutsOf (okCut ns2 rw2) [(sa, sb), (sb, sa)] 1 = [[(sa, sb)], [(sb, sa)]] := by
    show ([[(sa, sb)], [(sb, sa)]] : List (List Pr)).filter (okCut ns2 rw2) = _
    rw [List.filter_cons, ok2a, if_pos rfl, List.filter_cons, ok2b, if_pos rfl]
    rfl
  rw [← c1]
  refine leastFrom_eq 3 0 1 (fun j _ hj => ?_) (by decide) (by decide) (by rw [c1]; exact List.cons_ne_nil _ _)
  have : j = 0 := by omega
  rw [this]
  exact c0
/-- one value that needs none -/
def ns1 : List Str := [sa]
def rw1 : Str → List Str := fun _ => []
theorem srt1 : srt ns1 = ns1 := srt_id (by decide +kernel)
theorem good1 : Good ns1 rw1 := by
  have nb : (ns1.all fun n => nameB n) = true := by decide +kernel
  exact ⟨by decide +kernel, by decide +kernel, by decide +kernel, fun n hn => nameB_ok (List.all_eq_true.mp nb n hn), fun n _ => List.nodup_nil, fun n _ m hm => by cases hm⟩
theorem rings1 : onRings ns1 rw1 = [] := by
  rw [onRings_eq]
  have : pairsOf ns1 rw1 = [] := by decide +kernel
  rw [this]
  rfl
theorem ok1 : okCut ns1 rw1 [] = true := okCut_iff.mpr fun ⟨S, ⟨n, hn⟩, h⟩ => by
  obtain ⟨_, m, hm, _⟩ := h n hn
  cases (List.mem_filter.mp hm).1
theorem answer1 : leastCuts (okCut ns1 rw1) (onRings ns1 rw1) = [[]] := by
  rw [rings1]
  have c0 : cutsOf (okCut ns1 rw1) [] 0 = [[]] := by
    show ([[]] : List (List Pr)).filter (okCut ns1 rw1) = [[]]
    rw [List.filter_cons, ok1, if_pos rfl]
    rfl
  rw [← c0]
  exact leastFrom_eq 1 0 0 (fun j _ hj => absurd hj (Nat.not_lt_zero _)) (by decide) (by decide) (by rw [c0]; exact List.cons_ne_nil _ _)
end Fm
set_option Elab.async false
set_option linter.all false
set_option maxRecDepth 100000
namespace Fm
open PySem L2 PySem.Spec
section
variable {P : Program} {w : World} {K : PySem.W.Frag} {mg : Str → Option Value} {base : Heap} {C : Addr}
theorem NetAt.congr {H : Hp} {x d : Addr} {ns : List Str} {rw : Str → List Str} {ad ad' : Str → Addr} (N : NetAt K C H x d ns rw ad) (h : ∀ n, n ∈ ns → ad n = ad' n) : NetAt K C H x d ns rw ad' :=
  ⟨N.ob, by rw [← kvsOf_congr h]; exact N.dc, fun n hn => by rw [← h n hn]; exact N.ro n hn⟩
/-- Net(needs), needs a dict of tuples -/
theorem mk_net {H : Hp} {e x dx : Addr} {ns : List Str} {rw : Str → List Str} {ad : Str → Addr} {Q : VK} {E : XK} (he : H e = some (.dK (kvsOf ns ad))) (R : RowsT K H ns rw ad) (G : Good ns rw) (hx : H x = none) (hdx : H dx = none) (hne : dx ≠ x)
    (hq : ∀ d H', Same H H' → NetAt K C H' x d (srt ns) rw ad → Q .non H') : spInit K C [.ref x, .ref e] (upd (upd H dx (.own x)) x (.ins C dx [])) Q E := by
  have sm : Same H (upd (upd H dx (.own x)) x (.ins C dx [])) := made_same hx hdx hne
  refine ⟨x, e, dx, ns, rw, ad, true, rfl, upd_same, sm _ _ he, G, fun n hn => ?_, fun H' d ad' hb N had => ?_⟩
  · rw [if_pos rfl]
    exact sqT_same sm (R n hn)
  · exact hq d H' (made_but hx hdx hne hb) (N.congr fun n hn => had rfl n (srt_mem.mp hn))
theorem srt_idem (ns : List Str) : srt (srt ns) = srt ns := srt_srt (srt_perm ns)
theorem leastFrom_sub {ok : List Pr → Bool} {ps : List Pr} : ∀ (n many : Nat) (c : List Pr), c ∈ leastFrom ok ps n many → ∀ p, p ∈ c → p ∈ ps
  | 0, _, c, h => by cases h
  | n + 1, many, c, h => by
    unfold leastFrom at h
    split at h
    · exact leastFrom_sub n (many + 1) c h
    · intro p hp
      obtain ⟨r, _, rfl⟩ := List.mem_map.mp (List.mem_filter.mp h).1
      obtain ⟨a, _, ha⟩ := List.mem_filterMap.mp hp
      exact List.mem_of_getElem? ha
/-- what least_cuts tells, as data -/
noncomputable def toldD (ns : List Str) (rw : Str → List Str) : PyData := if 8 < (onRings ns rw).length then .int 8 else .list ((leastCuts (okCut ns rw) (onRings ns rw)).map cutD)
theorem toldD_lv {ns : List Str} {rw : Str → List Str} (G : Good ns rw) : Lv 3 (toldD ns rw) := by
  unfold toldD
  split
  · exact .int 8
  · exact Lv.list (k := 2) (lv_cuts fun c hc p hp => G.pr (List.mem_filter.mp (leastFrom_sub _ _ c hc p hp)).1)
def spToldD (K : PySem.W.Frag) (C : Addr) : Sp := fun vs H Q _ => ∃ (x d : Addr) (ns : List Str) (rw : Str → List Str) (ad : Str → Addr), vs = [.ref x] ∧ NetAt K C H x d ns rw ad ∧ Good ns rw ∧ srt ns = ns ∧
  ∀ H' v, Same H H' → Dp K H' v (toldD ns rw) → Q v H'
theorem told_imp {n : Nat} {f : Addr} {fd : FuncData} (F : FnOk P w K mg base CX0 n f fd ["net"] (spTold K C)) : FnOk P w K mg base CX0 n f fd ["net"] (spToldD K C) := by
  refine F.imp fun vs H Q E h => ?_
  obtain ⟨x, d, ns, rw_, ad, e, N, G, hs, k⟩ := h
  refine ⟨x, d, ns, rw_, ad, e, N, G, hs, fun h8 H' s => k H' _ s ?_, fun h8 H' D us s hu hp => k H' _ s ?_⟩
  · unfold toldD; rw [if_pos h8]; exact .int 8
  · unfold toldD; rw [if_neg (by omega)]; exact dp_list hu hp
/-! ### law -/
def spLaw (K : PySem.W.Frag) : Sp := fun vs H Q _ => ∃ (a : Addr) (ns : List Int), vs = [.ref a] ∧ SqL K H a (ns.map V.int) ∧ ns.length ≤ 63 ∧ ∀ H', Q (.bl true) H'
abbrev nLaw : List Str := ["script", "k", "needs", "net", "many", "due", "full", "name"]
theorem scLaw : FnScope nLaw ["script"] (defScope sLaw) := ⟨rfl, rfl, rfl, by decide +kernel, rfl, by decide +kernel, by decide +kernel⟩
theorem ok_law {f fI fE fP fD fO fU fT : Addr} {fd fdI fdE fdP fdD fdO fdU fdT : FuncData} (F : Fun K "law" "law" sLaw f fd) (B : Bt mg) (T : NetK K C) (gN : mg "Net" = some (.ref C)) (M : Mk K C fI) (bI : Binds K fdI ["self", "needs"] [])
    (I2 : FnOk P w K mg base CX0 2 fI fdI ["self", "needs"] (spInit K C)) (bE : Binds K fdE ["self", "other"] []) (E1 : FnOk P w K mg base CX0 1 fE fdE ["self", "other"] (spEq (SameNet K C))) (hE : PySem.W.findIn K (.ref C) "__eq__" = some (some (.ref fE))) (fE1 : PySem.W.isFn K (.ref fE) = true)
    (hNe : PySem.W.findIn K (.ref C) "__ne__" = some (some (.builtin "object.__ne__"))) (GP : Gf K mg "_law_pool" sPool ["script", "k"] fP fdP) (GD : Gf K mg "_law_needs" sNeeds ["pool", "rings"] fD fdD) (D3 : FnOk P w K mg base CX0 3 fD fdD ["pool", "rings"] (spDraw K))
    (GO : Gf K mg "_law_on_rings" sOnRings ["needs"] fO fdO) (GU : Gf K mg "_law_due" sDue ["needs"] fU fdU) (U2 : FnOk P w K mg base CX0 2 fU fdU ["needs"] (spDue K)) (GT : Gf K mg "_law_told" sTold ["net"] fT fdT) (T11 : FnOk P w K mg base CX0 11 fT fdT ["net"] (spTold K C)) :
    FnOk P w K mg base CX0 12 f fd ["script"] (spLaw K) := by
  have P1 : FnOk P w K mg base CX0 1 fP fdP ["script", "k"] (spPool K) := ok_pool GP.F B.int B.len
  have O1 : FnOk P w K mg base CX0 1 fO fdO ["needs"] (spOnR K) := ok_onR GO.F B
  have T11 : FnOk P w K mg base CX0 11 fT fdT ["net"] (spToldD K C) := told_imp T11
  refine F.ok scLaw (fun vs H Q E h => ?_) (fun cdv A outer s H vs Q E hr h => ?_)
  · obtain ⟨a, ns, rfl, _⟩ := h
    rfl
  · obtain ⟨a, zs, rfl, hS, hz, k⟩ := h
    have nd := scLaw.nd
    refine ⟨_, pss_cons (ps_for PassesOwn.never rfl (pi_range1 (by rfl) B.range (pa_cons (pe_callB (call_max2 rfl) (by rfl) B.max boot_bmax (pa_cons pe_int (pa_cons (pe_callB (call_min2 rfl) (by rfl) B.min boot_bmin (pa_cons pe_int (pa_cons (pe_callB call_len_seq (by rfl) B.len PySem.boot_len (pa_cons (pv 0) pa_nil)) pa_nil))) pa_nil))) pa_nil)) (pg_name (i := 1) nd rfl (Or.inl rfl))
        (pss_cons (ps_set (i := 2) nd rfl (Or.inl rfl) (pe_call D3 (hr.mono (by decide)) rfl GD.g GD.F.kp GD.b .nil pass0 (pa_cons (pe_call P1 (hr.mono (by decide)) rfl GP.g GP.F.kp GP.b .nil pass0 (pa_cons (pv 0) (pa_cons (pv 1) pa_nil))) (pa_cons pe_bl pa_nil))))
        (pss_cons (ps_par (i := 3) (j := 4) (by rfl) nd rfl rfl (by decide) rfl rfl (pa_cons (pe_make M I2 (hr.mono (by decide)) rfl gN bI .nil pass0 (pa_cons (pv 2) pa_nil)) (pa_cons (pe_callB call_len_seq (by rfl) B.len PySem.boot_len (pa_cons (pe_call O1 (hr.mono (by decide)) rfl GO.g GO.F.kp GO.b .nil pass0 (pa_cons (pv 2) pa_nil)) pa_nil)) pa_nil)) (by rfl))
        (Evl.pss_cut (ps_set (i := 5) nd rfl (Or.inl rfl) (pe_ifExp (pt_cmpR op_gt (pv 4) pe_int (nomark _)) pe_int (pe_call U2 (hr.mono (by decide)) rfl GU.g GU.F.kp GU.b .nil pass0 (pa_cons (pv 2) pa_nil))))
        (pss_one (ps_if (PW.pt (pw_or (pt_cmpR (op_neD hr.units) (pe_call T11 hr rfl GT.g GT.F.kp GT.b .nil pass0 (pa_cons (pv 3) pa_nil)) (pv 5) (nomark _))
            (pw_or1 (pt_cmpR (op_neOwn (C := C) (R := SameNet K C) (n := 1) (hr.mono (by decide)) E1 T.mo hNe hE fE1 bE pass0) (pv 3) (pe_make M I2 (hr.mono (by decide)) rfl gN bI .nil pass0 (pa_cons (pv 2) pa_nil)) (by rfl))))) pss_never pss_nil))))))
      (pss_cons (ps_set (i := 6) nd rfl (Or.inl rfl) (pe_callTy (call_dictP rfl) (by rfl) B.dict boot_tdict (pa_cons (pe_lc (own := [("name", 7)]) (g := gName 7) (by rfl) nd (pi_list (pe_lst (pa_cons pe_str (pa_cons pe_str (pa_cons pe_str pa_nil))))) (blkOk_by (own := [("name", 7)]) (N := nLaw) (sc := defScope sLaw) (by decide +kernel))
          (fun _ _ _ _ _ => pg_name (i := 7) nd rfl (Or.inl rfl)) (fun _ _ _ _ _ => pts_nil) (fun _ _ _ _ _ => pe_tup (pa_cons (pv 7) (pa_cons (pe_tup (pa_cons pe_str (pa_cons pe_str (pa_cons pe_str pa_nil)))) pa_nil)))) pa_nil)))
      (pss_cons (ps_if (pt_cmpR (op_neD hr.units) (pe_call T11 hr rfl GT.g GT.F.kp GT.b .nil pass0 (pa_cons (pe_make M I2 (hr.mono (by decide)) rfl gN bI .nil pass0 (pa_cons (pv 6) pa_nil)) pa_nil)) pe_int (nomark _)) pss_never pss_nil)
      (pss_cons (ps_if (pt_cmpR (op_neD hr.units) (pe_call T11 hr rfl GT.g GT.F.kp GT.b .nil pass0 (pa_cons (pe_make M I2 (hr.mono (by decide)) rfl gN bI .nil pass0 (pa_cons (pe_disp (pps_cons pe_str (pe_tup (pa_cons pe_str pa_nil)) (pps_cons pe_str (pe_tup (pa_cons pe_str pa_nil)) pps_nil)) rfl rfl (by simp) (by decide)) pa_nil)) pa_nil))
          (pe_lst (pa_cons (pe_tup (pa_cons (pe_tup (pa_cons pe_str (pa_cons pe_str pa_nil))) pa_nil)) (pa_cons (pe_tup (pa_cons (pe_tup (pa_cons pe_str (pa_cons pe_str pa_nil))) pa_nil)) pa_nil))) (nomark _)) pss_never pss_nil)
      (pss_one (ps_ret (pe_cmpR (op_eqD hr.units) (pe_call T11 hr rfl GT.g GT.F.kp GT.b .nil pass0 (pa_cons (pe_make M I2 (hr.mono (by decide)) rfl gN bI .nil pass0 (pa_cons (pe_disp (pps_cons pe_str (pe_tup pa_nil) pps_nil) rfl rfl (by simp) (by decide)) pa_nil)) pa_nil))
          (pe_lst (pa_cons (pe_tup pa_nil) pa_nil)) (nomark _))))))), ?_⟩
    have sz : (100000 : Nat) < sizeLine := by decide
    refine ⟨_, rfl, a, _, rfl, .inl hS, _, _, rfl, _, _, rfl, ?_⟩
    obtain ⟨v, hv0, hv5, ev⟩ : ∃ v : Int, 0 ≤ v ∧ v ≤ 5 ∧ (if (if (((zs.map V.int).length : Nat) : Int) < 5 then (((zs.map V.int).length : Nat) : Int) else 5) > 1 then (if (((zs.map V.int).length : Nat) : Int) < 5 then (((zs.map V.int).length : Nat) : Int) else 5) else 1) = v := by
      refine ⟨_, ?_, ?_, rfl⟩
      · split
        · omega
        · omega
      · split
        · split <;> omega
        · omega
    refine ⟨v, congrArg (fun z => [V.int z]) ev, by omega, by omega, ?_⟩
    refine for_it walk_range (fun i σ H' => ∃ v1 v2 v3 v4 v5, σ = [some (.ref a), v1, v2, v3, v4, v5, none, none] ∧ Same H H') ⟨none, none, none, none, none, rfl, Same.refl _⟩ (fun _ _ _ _ _ => trivial) ?_ ?_
    · rintro i y σ1 H1 H2 hi ⟨v1, v2, v3, v4, v5, rfl, s2⟩ ⟨rfl, rfl⟩
      refine ⟨_, rfl, _, rfl, a, zs, i, by show [V.ref a, V.int (0 + (i : Int))] = _; rw [Int.zero_add], sqL_same s2 hS, hz, by omega, fun p H3 hp s3 pool => ?_⟩
      refine ⟨p, rfl, pool, fun H4 e ns rw_ ad hb he R G => ?_⟩
      have s4 : Same H H4 := Same.trans s2 (But.sameOf s3 hp hb)
      have Gs : Good (srt ns) rw_ := G.perm (srt_perm ns)
      refine ⟨_, rfl, fun y dy hy hdy hne => mk_net he R G hy hdy hne fun d H5 s5 N => ⟨rfl, ?_⟩⟩
      refine ⟨_, rfl, e, ns, rw_, ad, rfl, s5 _ _ he, R.same s5, G, fun H6 D6 us6 s6 hu6 hp6 => ?_⟩
      have e6 := dpAll_length hp6
      rw [List.length_map] at e6
      refine ⟨D6, us6, rfl, .inl (.inl (.inl hu6)), _, _, rfl, ?_⟩
      have s46 : Same H4 H6 := Same.trans s5 s6
      refine ⟨fun σ' H' => ∃ v, σ' = [some (.ref a), some (.int (0 + (i : Int))), some (.ref e), some (.ref y), some (.int (us6.length : Nat)), some v, none, none] ∧ Same H6 H' ∧ Dp K H' v (toldD (srt ns) rw_), ?_, ?_⟩
      · refine ⟨_, rfl, _, _, rfl, rfl, _, rfl, ?_⟩
        rw [e6]
        refine ite2 (fun h => ?_) (fun h => ?_)
        · have h8 : 8 < (onRings (srt ns) rw_).length := by have := of_decide_eq_true h; omega
          refine ⟨_, rfl, Same.refl _, ?_⟩
          unfold toldD
          rw [if_pos h8]
          exact .int 8
        · have h8 : ¬ 8 < (onRings (srt ns) rw_).length := fun z => h (decide_eq_true (by omega))
          refine ⟨_, rfl, e, ns, rw_, ad, rfl, s46 _ _ he, R.same s46, G, by omega, fun H7 D7 us7 s7 hu7 hp7 => ⟨_, rfl, s7, ?_⟩⟩
          unfold toldD
          rw [if_neg h8, answer_eq]
          exact dp_list hu7 hp7
      · rintro σ' H7 ⟨v, rfl, s7, hdv⟩
        have s67 : Same H5 H7 := Same.trans s6 s7
        have lv := toldD_lv Gs
        refine ⟨_, rfl, y, d, srt ns, rw_, ad, rfl, N.same s67, Gs, srt_idem ns, fun H8 u s8 hu => ?_⟩
        refine ⟨_, rfl, _, _, hu, dp_same s8 hdv, lv.shaped (by decide), lv.shaped (by decide), _, rfl, ?_⟩
        rw [eqv_self _ lv.1]
        refine iteF ?_
        have s48 : Same H4 H8 := Same.trans s5 (Same.trans s67 s8)
        refine ⟨_, rfl, _, rfl, fun y2 dy2 hy2 hdy2 hne2 => mk_net (s48 _ _ he) (R.same s48) G hy2 hdy2 hne2 fun d2 H9 s9 N9 => ⟨rfl, ?_⟩⟩
        have N' := N.same (Same.trans s67 (Same.trans s8 s9))
        obtain ⟨dx1, hx1⟩ := N'.ob
        obtain ⟨dx2, hx2⟩ := N9.ob
        refine ⟨⟨y, y2, dx1, dx2, _, _, rfl, rfl, hx1, hx2, d, d2, srt ns, rw_, ad, N', N9⟩, fun H10 ex => ⟨_, rfl, iteF ?_⟩⟩
        exact ⟨_, _, _, _, _, rfl, Same.trans s4 (Same.trans s48 (Same.trans s9 ex))⟩
    rintro σ1 H1 ⟨v1, v2, v3, v4, v5, rfl, s1⟩
    -- three values that all need one another
    refine ⟨(by show 3 ≤ sizeLine; omega), fun q hq => ?_⟩
    have hq1 : SqL K (upd H1 q (.lst (ns3.map V.str))) q (ns3.map V.str) := .inl (.inl upd_same)
    refine ⟨q, rfl, ⟨_, hq1⟩, fun D hD => ?_⟩
    change ∃ W : Nat → Nat → Hp → Prop, (∃ m, W 0 m (upd (upd H1 q (.lst (ns3.map V.str))) D (.lst []))) ∧ _
    have hD' : (upd H1 q (.lst (ns3.map V.str))) D = none := hD
    generalize upd H1 q (.lst (ns3.map V.str)) = H2 at hq1 hD' ⊢
    refine lc_it (walk_list (xs := ns3.map V.str)) (fun i H' => Same H2 H' ∧ ∃ (ps : List Addr) (ad : Str → Addr), H' D = some (.lst (ps.map V.ref)) ∧ ps.length ≤ i ∧ Paired (fun p kv => SqT K H' p [L2.kV kv.1, kv.2]) ps (kvsOf (ns3.take i) ad) ∧ ∀ n, n ∈ ns3.take i → SqT K H' (ad n) ((rw3 n).map V.str))
      ⟨Same.new (Same.refl _) hD', [], fun _ => 0, upd_same, Nat.le_refl _, by rw [List.take_zero]; exact .nil, fun n hn => by rw [List.take_zero] at hn; cases hn⟩ (fun i H' _ p => sqL_same p.1 hq1) ?_ ?_
    · rintro i y H3 H4 hi ⟨s3, ps, ad, hps, hpl, hpp, hr3⟩ ⟨rfl, hy⟩
      obtain ⟨n, hn, rfl⟩ := at_str hy
      rw [List.length_map] at hi
      have nin : ¬ n ∈ ns3.take i := fun z => by
        obtain ⟨j, hj, e⟩ := List.getElem_of_mem z
        rw [List.length_take] at hj
        rw [List.getElem_take] at e
        have hjl : j < ns3.length := by omega
        have h1 : ns3[i] = n := by
          have := List.getElem?_eq_getElem hi
          rw [hn] at this
          exact (Option.some.inj this).symm
        have := List.pairwise_iff_getElem.mp good3.nd j i hjl hi (by omega)
        exact this (by rw [e, h1])
      have tk1 : ns3.take (i + 1) = ns3.take i ++ [n] := by rw [List.take_succ, hn]; rfl
      refine ⟨rfl, _, rfl, (by show 3 ≤ sizeLine; omega), fun t ht => ⟨(by show 2 ≤ sizeLine; omega), fun u hu => ?_⟩⟩
      have st : Same H4 (upd H4 t (.tup ((rw3 n).map V.str))) := Same.new (Same.refl _) ht
      have su : Same H4 (upd (upd H4 t (.tup ((rw3 n).map V.str))) u (.tup [.str n, .ref t])) := Same.new st hu
      have ht2 : SqT K (upd (upd H4 t (.tup ((rw3 n).map V.str))) u (.tup [.str n, .ref t])) t ((rw3 n).map V.str) := sqT_same (Same.new (Same.refl _) hu) (.inl (.inl upd_same))
      have hu2 : SqT K (upd (upd H4 t (.tup ((rw3 n).map V.str))) u (.tup [.str n, .ref t])) u [.str n, .ref t] := .inl (.inl upd_same)
      have hps5 := su _ _ hps
      refine ⟨_, hps5, by rw [List.length_map]; have : ns3.length = 3 := rfl; omega, fun b o eb => ?_, ps ++ [u], fun m => if m = n then t else ad m, by rw [List.map_append]; exact upd_same, by rw [List.length_append]; simp; omega, ?_, fun m hm => ?_⟩
      · rw [upd_ne (ne_of_none eb hD')]
        exact su _ _ (s3 b o eb)
      · rw [tk1]
        have ek : kvsOf (ns3.take i ++ [n]) (fun m => if m = n then t else ad m) = kvsOf (ns3.take i) ad ++ [(Sum.inr n, V.ref t)] := by
          have h1 : kvsOf (ns3.take i) (fun m => if m = n then t else ad m) = kvsOf (ns3.take i) ad := kvsOf_congr fun m hm => by
            have ne : ¬ m = n := fun z => nin (by rw [← z]; exact hm)
            show (if m = n then t else ad m) = ad m
            rw [if_neg ne]
          rw [← h1]
          unfold kvsOf
          rw [List.map_append]
          congr 1
          show [(Sum.inr n, V.ref (if n = n then t else ad n))] = _
          rw [if_pos rfl]
        rw [ek]
        exact (hpp.mono fun p kv h => sqT_upd hps5 (sqT_same su h)).snoc (sqT_upd (xs := [L2.kV (Sum.inr n : Key), V.ref t]) hps5 hu2)
      · rw [tk1] at hm
        rcases List.mem_append.mp hm with hm | hm
        · have ne : ¬ m = n := fun z => nin (by rw [← z]; exact hm)
          show SqT K _ (if m = n then t else ad m) _
          rw [if_neg ne]
          exact sqT_upd hps5 (sqT_same su (hr3 m hm))
        · rw [List.mem_singleton.mp hm]
          show SqT K _ (if n = n then t else ad n) _
          rw [if_pos rfl]
          exact sqT_upd hps5 ht2
    · rintro H3 ⟨s3, ps, ad, hps, hpl, hpp, hr3⟩
      rw [List.length_map, List.take_length] at hpp hr3
      refine ⟨D, ps, _, rfl, .inl (.inl hps), hpp, fun F3 hF3 => ?_⟩
      rw [merge_kvs good3.nd]
      have sF : Same H3 (upd H3 F3 (.dK (kvsOf ns3 ad))) := Same.new (Same.refl _) hF3
      have hF : (upd H3 F3 (.dK (kvsOf ns3 ad))) F3 = some (.dK (kvsOf ns3 ad)) := upd_same
      have R3 : RowsT K (upd H3 F3 (.dK (kvsOf ns3 ad))) ns3 rw3 ad := fun n hn => sqT_same sF (hr3 n hn)
      generalize upd H3 F3 (.dK (kvsOf ns3 ad)) = H4 at hF R3 ⊢
      refine ⟨_, rfl, fun y dy hy hdy hne => mk_net hF R3 good3 hy hdy hne fun d H5 s5 N => ⟨rfl, ?_⟩⟩
      rw [srt3] at N
      refine ⟨y, d, ns3, rw3, ad, rfl, N, good3, srt3, fun H6 v s6 hv => ?_⟩
      have e3 : toldD ns3 rw3 = .int 8 := by unfold toldD; rw [if_pos rings3]
      rw [e3] at hv
      refine ⟨_, _, hv, .int 8, (Lv.int (k := 0) 8).shaped (by decide), (Lv.int (k := 0) 8).shaped (by decide), _, rfl, ?_⟩
      rw [eqv_self _ (Lv.int (k := 0) 8).1]
      refine iteF ?_
      -- two values that need each other
      refine fun p hp => ?_
      refine ⟨(by show 1 ≤ sizeLine; omega), fun t1 h1 => ⟨(by show 1 ≤ sizeLine; omega), fun t2 h2 => ?_⟩⟩
      have q1 : Same (upd H6 p (.dK [])) (upd (upd H6 p (.dK [])) t1 (.tup [V.str sb])) := Same.new (Same.refl _) h1
      have h2' : (upd (upd H6 p (.dK [])) t1 (.tup [V.str sb])) t2 = none := h2
      have q2 : Same (upd (upd H6 p (.dK [])) t1 (.tup [V.str sb])) (upd (upd (upd H6 p (.dK [])) t1 (.tup [V.str sb])) t2 (.tup [V.str sa])) := Same.new (Same.refl _) h2'
      have p2 : (upd (upd (upd H6 p (.dK [])) t1 (.tup [V.str sb])) t2 (.tup [V.str sa])) p = some (.dK []) := q2 _ _ (q1 _ _ upd_same)
      have r1 : SqT K (upd (upd (upd H6 p (.dK [])) t1 (.tup [V.str sb])) t2 (.tup [V.str sa])) t1 [V.str sb] := sqT_same q2 (.inl (.inl upd_same))
      have r2 : SqT K (upd (upd (upd H6 p (.dK [])) t1 (.tup [V.str sb])) t2 (.tup [V.str sa])) t2 [V.str sa] := .inl (.inl upd_same)
      refine ⟨p2, [(Sum.inr sa, V.ref t1), (Sum.inr sb, V.ref t2)], rfl, by show 2 ≤ 15; decide, ?_⟩
      have kv2 : ([(Sum.inr sa, V.ref t1), (Sum.inr sb, V.ref t2)] : List (Key × V)) = kvsOf ns2 (fun n => if n = sa then t1 else t2) := by
        show _ = [(Sum.inr sa, V.ref (if sa = sa then t1 else t2)), (Sum.inr sb, V.ref (if sb = sa then t1 else t2))]
        rw [if_pos rfl, if_neg (by decide +kernel)]
      rw [kv2, merge_kvs good2.nd]
      have hd2 : (upd (upd (upd (upd H6 p (.dK [])) t1 (.tup [V.str sb])) t2 (.tup [V.str sa])) p (.dK (kvsOf ns2 (fun n => if n = sa then t1 else t2)))) p = some (.dK (kvsOf ns2 (fun n => if n = sa then t1 else t2))) := upd_same
      have R2 : RowsT K (upd (upd (upd (upd H6 p (.dK [])) t1 (.tup [V.str sb])) t2 (.tup [V.str sa])) p (.dK (kvsOf ns2 (fun n => if n = sa then t1 else t2)))) ns2 rw2 (fun n => if n = sa then t1 else t2) := fun n hn => by
        rcases mem2 hn with rfl | rfl
        · show SqT K _ (if sa = sa then t1 else t2) _
          rw [if_pos rfl, rw2a]
          exact sqT_updD p2 r1
        · show SqT K _ (if sb = sa then t1 else t2) _
          rw [if_neg (by decide +kernel), rw2b]
          exact sqT_updD p2 r2
      refine fun y2 dy2 hy2 hdy2 hne2 => mk_net hd2 R2 good2 hy2 hdy2 hne2 fun d2 H8 s8 N2 => ⟨rfl, ?_⟩
      clear hd2 R2 p2 r1 r2 q1 q2
      rw [srt2] at N2
      refine ⟨y2, d2, ns2, rw2, _, rfl, N2, good2, srt2, fun H9 v2 s9 hv2 => ?_⟩
      have e2 : toldD ns2 rw2 = .list ([[(sa, sb)], [(sb, sa)]].map cutD) := by
        unfold toldD
        rw [answer2, rings2, if_neg (by decide)]
      have lv2 := toldD_lv good2
      rw [e2] at hv2 lv2
      refine ⟨(by show 2 ≤ sizeLine; omega), fun u1 g1 => ?_⟩
      have z1 : Same H9 (upd H9 u1 (.tup [V.str sa, V.str sb])) := Same.new (Same.refl _) g1
      have w1 : Dp K (upd H9 u1 (.tup [V.str sa, V.str sb])) (.ref u1) (prD (sa, sb)) := .tup (.inl (.inl upd_same)) (.cons (.str _) (.cons (.str _) .nil))
      refine ⟨(by show 1 ≤ sizeLine; omega), fun u2 g2 => ?_⟩
      have z2 : Same (upd H9 u1 (.tup [V.str sa, V.str sb])) (upd (upd H9 u1 (.tup [V.str sa, V.str sb])) u2 (.tup [V.ref u1])) := Same.new (Same.refl _) g2
      have w2 : Dp K (upd (upd H9 u1 (.tup [V.str sa, V.str sb])) u2 (.tup [V.ref u1])) (.ref u2) (cutD [(sa, sb)]) := .tup (.inl (.inl upd_same)) (.cons (dp_same z2 w1) .nil)
      refine ⟨(by show 2 ≤ sizeLine; omega), fun u3 g3 => ?_⟩
      have z3 : Same (upd (upd H9 u1 (.tup [V.str sa, V.str sb])) u2 (.tup [V.ref u1])) (upd (upd (upd H9 u1 (.tup [V.str sa, V.str sb])) u2 (.tup [V.ref u1])) u3 (.tup [V.str sb, V.str sa])) := Same.new (Same.refl _) g3
      have w3 : Dp K (upd (upd (upd H9 u1 (.tup [V.str sa, V.str sb])) u2 (.tup [V.ref u1])) u3 (.tup [V.str sb, V.str sa])) (.ref u3) (prD (sb, sa)) := .tup (.inl (.inl upd_same)) (.cons (.str _) (.cons (.str _) .nil))
      refine ⟨(by show 1 ≤ sizeLine; omega), fun u4 g4 => ?_⟩
      have z4 : Same (upd (upd (upd H9 u1 (.tup [V.str sa, V.str sb])) u2 (.tup [V.ref u1])) u3 (.tup [V.str sb, V.str sa])) (upd (upd (upd (upd H9 u1 (.tup [V.str sa, V.str sb])) u2 (.tup [V.ref u1])) u3 (.tup [V.str sb, V.str sa])) u4 (.tup [V.ref u3])) := Same.new (Same.refl _) g4
      have w4 : Dp K (upd (upd (upd (upd H9 u1 (.tup [V.str sa, V.str sb])) u2 (.tup [V.ref u1])) u3 (.tup [V.str sb, V.str sa])) u4 (.tup [V.ref u3])) (.ref u4) (cutD [(sb, sa)]) := .tup (.inl (.inl upd_same)) (.cons (dp_same z4 w3) .nil)
      have w24 := dp_same (Same.trans z3 z4) w2
      have z14 : Same H9 (upd (upd (upd (upd H9 u1 (.tup [V.str sa, V.str sb])) u2 (.tup [V.ref u1])) u3 (.tup [V.str sb, V.str sa])) u4 (.tup [V.ref u3])) := Same.trans z1 (Same.trans z2 (Same.trans z3 z4))
      refine ⟨(by show 2 ≤ sizeLine; omega), fun u5 g5 => ?_⟩
      have z5 : Same (upd (upd (upd (upd H9 u1 (.tup [V.str sa, V.str sb])) u2 (.tup [V.ref u1])) u3 (.tup [V.str sb, V.str sa])) u4 (.tup [V.ref u3])) (upd (upd (upd (upd (upd H9 u1 (.tup [V.str sa, V.str sb])) u2 (.tup [V.ref u1])) u3 (.tup [V.str sb, V.str sa])) u4 (.tup [V.ref u3])) u5 (.lst [V.ref u2, V.ref u4])) := Same.new (Same.refl _) g5
      refine ⟨.list ([[(sa, sb)], [(sb, sa)]].map cutD), .list ([[(sa, sb)], [(sb, sa)]].map cutD), dp_same (Same.trans z14 z5) hv2, .lst (.inl (.inl upd_same)) (.cons (dp_same z5 w24) (.cons (dp_same z5 w4) .nil)), lv2.shaped (by decide), lv2.shaped (by decide), _, rfl, ?_⟩
      rw [eqv_self _ lv2.1]
      refine iteF ?_
      -- one value that needs none
      refine fun p3 hp3 => ?_
      refine ⟨Nat.zero_le _, fun t3 h3 => ?_⟩
      generalize (upd (upd (upd (upd (upd H9 u1 (.tup [V.str sa, V.str sb])) u2 (.tup [V.ref u1])) u3 (.tup [V.str sb, V.str sa])) u4 (.tup [V.ref u3])) u5 (.lst [V.ref u2, V.ref u4])) = Hx at z5
      clear z5
      refine ⟨?_, [(Sum.inr sa, V.ref t3)], rfl, by show 1 ≤ 15; decide, ?_⟩
      · rw [upd_ne (ne_of_none upd_same h3)]
        exact upd_same
      have kv1 : ([(Sum.inr sa, V.ref t3)] : List (Key × V)) = kvsOf ns1 (fun _ => t3) := rfl
      rw [kv1, merge_kvs good1.nd]
      refine fun y3 dy3 hy3 hdy3 hne3 => mk_net upd_same (ns := ns1) (rw := rw1) (ad := fun _ => t3) (fun n hn => ?_) good1 hy3 hdy3 hne3 fun d3 H10 s10 N3 => ⟨rfl, ?_⟩
      · refine sqT_updD (kvs := []) ?_ (.inl (.inl upd_same))
        rw [upd_ne (ne_of_none upd_same h3)]
        exact upd_same
      rw [srt1] at N3
      refine ⟨y3, d3, ns1, rw1, _, rfl, N3, good1, srt1, fun H11 v3 s11 hv3 => ?_⟩
      have e1 : toldD ns1 rw1 = .list ([[]].map cutD) := by
        unfold toldD
        rw [answer1, rings1, if_neg (by decide)]
      have lv1 := toldD_lv good1
      rw [e1] at hv3 lv1
      refine ⟨Nat.zero_le _, fun x1 c1 => ?_⟩
      have m1 : Same H11 (upd H11 x1 (.tup [])) := Same.new (Same.refl _) c1
      have n1 : Dp K (upd H11 x1 (.tup [])) (.ref x1) (cutD []) := .tup (.inl (.inl upd_same)) .nil
      refine ⟨(by show 1 ≤ sizeLine; omega), fun x2 c2 => ?_⟩
      have m2 : Same (upd H11 x1 (.tup [])) (upd (upd H11 x1 (.tup [])) x2 (.lst [V.ref x1])) := Same.new (Same.refl _) c2
      refine ⟨.list ([[]].map cutD), .list ([[]].map cutD), dp_same (Same.trans m1 m2) hv3, .lst (.inl (.inl upd_same)) (.cons (dp_same m2 n1) .nil), lv1.shaped (by decide), lv1.shaped (by decide), ?_⟩
      rw [eqv_self _ lv1.1]
      exact k _
end
end Fm
set_option Elab.async false
set_option linter.all false
set_option maxRecDepth 100000
namespace Fm
open PySem PySem.W PySem.Calls PyProof.Rows PySem.HandSPX L2
/-- an error of the class at S is what «except S» names -/
theorem exm_self {K : PySem.W.Frag} {S : Addr} (h1 : PySem.W.subIn K (.ref S) (.type "BaseException") = some true) (h2 : PySem.W.isClsIn K S = true) (h3 : PySem.W.typeIn K (.ref S) = some (.type "type")) (h4 : PySem.W.subIn K (.ref S) (.ref S) = some true) : PySem.W.exmOne K (.ref S) (.ref S) = some true := by
  have e1 : (PySem.W.subIn K (.ref S) (.type "BaseException") == some true) = true := by rw [h1] <;> rfl
  have e2 : ((PySem.W.clsIn K S).isSome && PySem.W.typeIn K (.ref S) == some (.type "type")) = true := by
    have h2' : (PySem.W.clsIn K S).isSome = true := h2
    rw [h2', h3] <;> rfl
  show (if (PySem.W.subIn K (.ref S) (.type "BaseException") == some true) = true then (if ((PySem.W.clsIn K S).isSome && PySem.W.typeIn K (.ref S) == some (.type "type")) = true then PySem.W.subIn K (.ref S) (.ref S) else none) else none) = some true
  rw [if_pos e1, if_pos e2]
  exact h4
/-- what the top has written, and the law's promise -/
theorem all_mk {l : PySem.W.OpenLaw} {w : World} {K : PySem.W.Frag} {h : Heap} {mg : Str → Option Value} {fa C : Addr} (X : K.In h) (G : h.Ns mainGlobals mg) (hfa : mg "law" = some (.ref fa))
    {fg1 : Addr} {odg1 ang1 : Option Addr} {slg1 : Array (Option Value)} {ocg1 kVg1 dcg1 pmg1 cdg1 ctg1 : Value}
    {fg2 : Addr} {odg2 ang2 : Option Addr} {slg2 : Array (Option Value)} {ocg2 kVg2 dcg2 pmg2 cdg2 ctg2 : Value}
    {fg3 : Addr} {odg3 ang3 : Option Addr} {slg3 : Array (Option Value)} {ocg3 kVg3 dcg3 pmg3 cdg3 ctg3 : Value}
    {fg4 : Addr} {odg4 ang4 : Option Addr} {slg4 : Array (Option Value)} {ocg4 kVg4 dcg4 pmg4 cdg4 ctg4 : Value}
    {fg5 : Addr} {odg5 ang5 : Option Addr} {slg5 : Array (Option Value)} {ocg5 kVg5 dcg5 pmg5 cdg5 ctg5 : Value}
    {fg6 : Addr} {odg6 ang6 : Option Addr} {slg6 : Array (Option Value)} {ocg6 kVg6 dcg6 pmg6 cdg6 ctg6 : Value}
    {fg7 : Addr} {odg7 ang7 : Option Addr} {slg7 : Array (Option Value)} {ocg7 kVg7 dcg7 pmg7 cdg7 ctg7 : Value}
    {fg8 : Addr} {odg8 ang8 : Option Addr} {slg8 : Array (Option Value)} {ocg8 kVg8 dcg8 pmg8 cdg8 ctg8 : Value}
    {fg9 : Addr} {odg9 ang9 : Option Addr} {slg9 : Array (Option Value)} {ocg9 kVg9 dcg9 pmg9 cdg9 ctg9 : Value}
    {fg10 : Addr} {odg10 ang10 : Option Addr} {slg10 : Array (Option Value)} {ocg10 kVg10 dcg10 pmg10 cdg10 ctg10 : Value}
    {fg11 : Addr} {odg11 ang11 : Option Addr} {slg11 : Array (Option Value)} {ocg11 kVg11 dcg11 pmg11 cdg11 ctg11 : Value}
    {fg12 : Addr} {odg12 ang12 : Option Addr} {slg12 : Array (Option Value)} {ocg12 kVg12 dcg12 pmg12 cdg12 ctg12 : Value}
    {fg13 : Addr} {odg13 ang13 : Option Addr} {slg13 : Array (Option Value)} {ocg13 kVg13 dcg13 pmg13 cdg13 ctg13 : Value}
    {fg14 : Addr} {odg14 ang14 : Option Addr} {slg14 : Array (Option Value)} {ocg14 kVg14 dcg14 pmg14 cdg14 ctg14 : Value}
    {fm1 : Addr} {odm1 anm1 : Option Addr} {slm1 : Array (Option Value)} {ocm1 kVm1 dcm1 pmm1 cdm1 ctm1 : Value}
    {fm2 : Addr} {odm2 anm2 : Option Addr} {slm2 : Array (Option Value)} {ocm2 kVm2 dcm2 pmm2 cdm2 ctm2 : Value}
    {fm3 : Addr} {odm3 anm3 : Option Addr} {slm3 : Array (Option Value)} {ocm3 kVm3 dcm3 pmm3 cdm3 ctm3 : Value}
    {fm4 : Addr} {odm4 anm4 : Option Addr} {slm4 : Array (Option Value)} {ocm4 kVm4 dcm4 pmm4 cdm4 ctm4 : Value}
    {fm5 : Addr} {odm5 anm5 : Option Addr} {slm5 : Array (Option Value)} {ocm5 kVm5 dcm5 pmm5 cdm5 ctm5 : Value}
    {fm6 : Addr} {odm6 anm6 : Option Addr} {slm6 : Array (Option Value)} {ocm6 kVm6 dcm6 pmm6 cdm6 ctm6 : Value}
    {fm7 : Addr} {odm7 anm7 : Option Addr} {slm7 : Array (Option Value)} {ocm7 kVm7 dcm7 pmm7 cdm7 ctm7 : Value}
    {fm8 : Addr} {odm8 anm8 : Option Addr} {slm8 : Array (Option Value)} {ocm8 kVm8 dcm8 pmm8 cdm8 ctm8 : Value}
    {fm9 : Addr} {odm9 anm9 : Option Addr} {slm9 : Array (Option Value)} {ocm9 kVm9 dcm9 pmm9 cdm9 ctm9 : Value}
    {fm10 : Addr} {odm10 anm10 : Option Addr} {slm10 : Array (Option Value)} {ocm10 kVm10 dcm10 pmm10 cdm10 ctm10 : Value}
    {CM fMI cc cda NM : Addr} {nmM qM : Str} {bsM : List Value} {snM : List Str} {subM : List Value} {abM : Bool} {colM : Option Bool} {ddM : Option Addr} {n0 n1 n2 n3 n5 : Option Value} {ocM : Value} {odM anM : Option Addr} {kVM dcM pmM ctM : Value} {slM : Array (Option Value)} {coL ceL : Value} {coD ceD : Option Addr} {coS ceS : Array (Option Value)} {vsM : Array Value} {fileM : Str} {tfM : Tok}
    {tkL tkl tkv tkcq : Tok} {zl : Str}
    (aC : PySem.W.nsIn K mainGlobals "Net" = some (some (.ref C)))
    (ag1 : PySem.W.nsIn K mainGlobals "is_name" = some (some (.ref fg1)))
    (lg1 : K.lookup fg1 = some ⟨ocg1, odg1, .func (PySem.W.fnOf "is_name" "is_name" (defArgs sIsName) (defBody sIsName) (defScope sIsName) .none kVg1 dcg1 pmg1 ang1 cdg1 ctg1), slg1⟩)
    (cg1 : PySem.W.codeIn K cdg1 "is_name" = true)
    (kg1 : PySem.W.keepIn K (.ref fg1) = true)
    (ag2 : PySem.W.nsIn K mainGlobals "is_needs" = some (some (.ref fg2)))
    (lg2 : K.lookup fg2 = some ⟨ocg2, odg2, .func (PySem.W.fnOf "is_needs" "is_needs" (defArgs sIsNeeds) (defBody sIsNeeds) (defScope sIsNeeds) .none kVg2 dcg2 pmg2 ang2 cdg2 ctg2), slg2⟩)
    (cg2 : PySem.W.codeIn K cdg2 "is_needs" = true)
    (kg2 : PySem.W.keepIn K (.ref fg2) = true)
    (ag3 : PySem.W.nsIn K mainGlobals "rising_tuples" = some (some (.ref fg3)))
    (lg3 : K.lookup fg3 = some ⟨ocg3, odg3, .func (PySem.W.fnOf "rising_tuples" "rising_tuples" (defArgs sRising) (defBody sRising) (defScope sRising) .none kVg3 dcg3 pmg3 ang3 cdg3 ctg3), slg3⟩)
    (cg3 : PySem.W.codeIn K cdg3 "rising_tuples" = true)
    (kg3 : PySem.W.keepIn K (.ref fg3) = true)
    (ag4 : PySem.W.nsIn K mainGlobals "_law_pool" = some (some (.ref fg4)))
    (lg4 : K.lookup fg4 = some ⟨ocg4, odg4, .func (PySem.W.fnOf "_law_pool" "_law_pool" (defArgs sPool) (defBody sPool) (defScope sPool) .none kVg4 dcg4 pmg4 ang4 cdg4 ctg4), slg4⟩)
    (cg4 : PySem.W.codeIn K cdg4 "_law_pool" = true)
    (kg4 : PySem.W.keepIn K (.ref fg4) = true)
    (ag5 : PySem.W.nsIn K mainGlobals "_law_take" = some (some (.ref fg5)))
    (lg5 : K.lookup fg5 = some ⟨ocg5, odg5, .func (PySem.W.fnOf "_law_take" "_law_take" (defArgs sTake) (defBody sTake) (defScope sTake) .none kVg5 dcg5 pmg5 ang5 cdg5 ctg5), slg5⟩)
    (cg5 : PySem.W.codeIn K cdg5 "_law_take" = true)
    (kg5 : PySem.W.keepIn K (.ref fg5) = true)
    (ag6 : PySem.W.nsIn K mainGlobals "_law_one" = some (some (.ref fg6)))
    (lg6 : K.lookup fg6 = some ⟨ocg6, odg6, .func (PySem.W.fnOf "_law_one" "_law_one" (defArgs sOne) (defBody sOne) (defScope sOne) .none kVg6 dcg6 pmg6 ang6 cdg6 ctg6), slg6⟩)
    (cg6 : PySem.W.codeIn K cdg6 "_law_one" = true)
    (kg6 : PySem.W.keepIn K (.ref fg6) = true)
    (ag7 : PySem.W.nsIn K mainGlobals "_law_needs" = some (some (.ref fg7)))
    (lg7 : K.lookup fg7 = some ⟨ocg7, odg7, .func (PySem.W.fnOf "_law_needs" "_law_needs" (defArgs sNeeds) (defBody sNeeds) (defScope sNeeds) .none kVg7 dcg7 pmg7 ang7 cdg7 ctg7), slg7⟩)
    (cg7 : PySem.W.codeIn K cdg7 "_law_needs" = true)
    (kg7 : PySem.W.keepIn K (.ref fg7) = true)
    (ag8 : PySem.W.nsIn K mainGlobals "_law_has_ring" = some (some (.ref fg8)))
    (lg8 : K.lookup fg8 = some ⟨ocg8, odg8, .func (PySem.W.fnOf "_law_has_ring" "_law_has_ring" (defArgs sHasRing) (defBody sHasRing) (defScope sHasRing) .none kVg8 dcg8 pmg8 ang8 cdg8 ctg8), slg8⟩)
    (cg8 : PySem.W.codeIn K cdg8 "_law_has_ring" = true)
    (kg8 : PySem.W.keepIn K (.ref fg8) = true)
    (ag9 : PySem.W.nsIn K mainGlobals "_law_cut" = some (some (.ref fg9)))
    (lg9 : K.lookup fg9 = some ⟨ocg9, odg9, .func (PySem.W.fnOf "_law_cut" "_law_cut" (defArgs sCut) (defBody sCut) (defScope sCut) .none kVg9 dcg9 pmg9 ang9 cdg9 ctg9), slg9⟩)
    (cg9 : PySem.W.codeIn K cdg9 "_law_cut" = true)
    (kg9 : PySem.W.keepIn K (.ref fg9) = true)
    (ag10 : PySem.W.nsIn K mainGlobals "_law_on_rings" = some (some (.ref fg10)))
    (lg10 : K.lookup fg10 = some ⟨ocg10, odg10, .func (PySem.W.fnOf "_law_on_rings" "_law_on_rings" (defArgs sOnRings) (defBody sOnRings) (defScope sOnRings) .none kVg10 dcg10 pmg10 ang10 cdg10 ctg10), slg10⟩)
    (cg10 : PySem.W.codeIn K cdg10 "_law_on_rings" = true)
    (kg10 : PySem.W.keepIn K (.ref fg10) = true)
    (ag11 : PySem.W.nsIn K mainGlobals "_law_sets" = some (some (.ref fg11)))
    (lg11 : K.lookup fg11 = some ⟨ocg11, odg11, .func (PySem.W.fnOf "_law_sets" "_law_sets" (defArgs sSets) (defBody sSets) (defScope sSets) .none kVg11 dcg11 pmg11 ang11 cdg11 ctg11), slg11⟩)
    (cg11 : PySem.W.codeIn K cdg11 "_law_sets" = true)
    (kg11 : PySem.W.keepIn K (.ref fg11) = true)
    (ag12 : PySem.W.nsIn K mainGlobals "_law_due" = some (some (.ref fg12)))
    (lg12 : K.lookup fg12 = some ⟨ocg12, odg12, .func (PySem.W.fnOf "_law_due" "_law_due" (defArgs sDue) (defBody sDue) (defScope sDue) .none kVg12 dcg12 pmg12 ang12 cdg12 ctg12), slg12⟩)
    (cg12 : PySem.W.codeIn K cdg12 "_law_due" = true)
    (kg12 : PySem.W.keepIn K (.ref fg12) = true)
    (ag13 : PySem.W.nsIn K mainGlobals "_law_told" = some (some (.ref fg13)))
    (lg13 : K.lookup fg13 = some ⟨ocg13, odg13, .func (PySem.W.fnOf "_law_told" "_law_told" (defArgs sTold) (defBody sTold) (defScope sTold) .none kVg13 dcg13 pmg13 ang13 cdg13 ctg13), slg13⟩)
    (cg13 : PySem.W.codeIn K cdg13 "_law_told" = true)
    (kg13 : PySem.W.keepIn K (.ref fg13) = true)
    (ag14 : PySem.W.nsIn K mainGlobals "law" = some (some (.ref fg14)))
    (lg14 : K.lookup fg14 = some ⟨ocg14, odg14, .func (PySem.W.fnOf "law" "law" (defArgs sLaw) (defBody sLaw) (defScope sLaw) .none kVg14 dcg14 pmg14 ang14 cdg14 ctg14), slg14⟩)
    (cg14 : PySem.W.codeIn K cdg14 "law" = true)
    (kg14 : PySem.W.keepIn K (.ref fg14) = true)
    (am1 : PySem.W.findIn K (.ref C) "__init__" = some (some (.ref fm1)))
    (im1 : PySem.W.isFn K (.ref fm1) = true)
    (lm1 : K.lookup fm1 = some ⟨ocm1, odm1, .func (PySem.W.fnOf "__init__" "Net.__init__" (defArgs sInit) (defBody sInit) (defScope sInit) .none kVm1 dcm1 pmm1 anm1 cdm1 ctm1), slm1⟩)
    (cm1 : PySem.W.codeIn K cdm1 "Net.__init__" = true)
    (km1 : PySem.W.keepIn K (.ref fm1) = true)
    (am2 : PySem.W.findIn K (.ref C) "look_at_name" = some (some (.ref fm2)))
    (im2 : PySem.W.isFn K (.ref fm2) = true)
    (lm2 : K.lookup fm2 = some ⟨ocm2, odm2, .func (PySem.W.fnOf "look_at_name" "Net.look_at_name" (defArgs sLook) (defBody sLook) (defScope sLook) .none kVm2 dcm2 pmm2 anm2 cdm2 ctm2), slm2⟩)
    (cm2 : PySem.W.codeIn K cdm2 "Net.look_at_name" = true)
    (km2 : PySem.W.keepIn K (.ref fm2) = true)
    (am3 : PySem.W.findIn K (.ref C) "__eq__" = some (some (.ref fm3)))
    (im3 : PySem.W.isFn K (.ref fm3) = true)
    (lm3 : K.lookup fm3 = some ⟨ocm3, odm3, .func (PySem.W.fnOf "__eq__" "Net.__eq__" (defArgs sEq) (defBody sEq) (defScope sEq) .none kVm3 dcm3 pmm3 anm3 cdm3 ctm3), slm3⟩)
    (cm3 : PySem.W.codeIn K cdm3 "Net.__eq__" = true)
    (km3 : PySem.W.keepIn K (.ref fm3) = true)
    (am4 : PySem.W.findIn K (.ref C) "pairs" = some (some (.ref fm4)))
    (im4 : PySem.W.isFn K (.ref fm4) = true)
    (lm4 : K.lookup fm4 = some ⟨ocm4, odm4, .func (PySem.W.fnOf "pairs" "Net.pairs" (defArgs sPairs) (defBody sPairs) (defScope sPairs) .none kVm4 dcm4 pmm4 anm4 cdm4 ctm4), slm4⟩)
    (cm4 : PySem.W.codeIn K cdm4 "Net.pairs" = true)
    (km4 : PySem.W.keepIn K (.ref fm4) = true)
    (am5 : PySem.W.findIn K (.ref C) "without" = some (some (.ref fm5)))
    (im5 : PySem.W.isFn K (.ref fm5) = true)
    (lm5 : K.lookup fm5 = some ⟨ocm5, odm5, .func (PySem.W.fnOf "without" "Net.without" (defArgs sWithout) (defBody sWithout) (defScope sWithout) .none kVm5 dcm5 pmm5 anm5 cdm5 ctm5), slm5⟩)
    (cm5 : PySem.W.codeIn K cdm5 "Net.without" = true)
    (km5 : PySem.W.keepIn K (.ref fm5) = true)
    (am6 : PySem.W.findIn K (.ref C) "reaches" = some (some (.ref fm6)))
    (im6 : PySem.W.isFn K (.ref fm6) = true)
    (lm6 : K.lookup fm6 = some ⟨ocm6, odm6, .func (PySem.W.fnOf "reaches" "Net.reaches" (defArgs sReaches) (defBody sReaches) (defScope sReaches) .none kVm6 dcm6 pmm6 anm6 cdm6 ctm6), slm6⟩)
    (cm6 : PySem.W.codeIn K cdm6 "Net.reaches" = true)
    (km6 : PySem.W.keepIn K (.ref fm6) = true)
    (am7 : PySem.W.findIn K (.ref C) "order" = some (some (.ref fm7)))
    (im7 : PySem.W.isFn K (.ref fm7) = true)
    (lm7 : K.lookup fm7 = some ⟨ocm7, odm7, .func (PySem.W.fnOf "order" "Net.order" (defArgs sOrder) (defBody sOrder) (defScope sOrder) .none kVm7 dcm7 pmm7 anm7 cdm7 ctm7), slm7⟩)
    (cm7 : PySem.W.codeIn K cdm7 "Net.order" = true)
    (km7 : PySem.W.keepIn K (.ref fm7) = true)
    (am8 : PySem.W.findIn K (.ref C) "lacks" = some (some (.ref fm8)))
    (im8 : PySem.W.isFn K (.ref fm8) = true)
    (lm8 : K.lookup fm8 = some ⟨ocm8, odm8, .func (PySem.W.fnOf "lacks" "Net.lacks" (defArgs sLacks) (defBody sLacks) (defScope sLacks) .none kVm8 dcm8 pmm8 anm8 cdm8 ctm8), slm8⟩)
    (cm8 : PySem.W.codeIn K cdm8 "Net.lacks" = true)
    (km8 : PySem.W.keepIn K (.ref fm8) = true)
    (am9 : PySem.W.findIn K (.ref C) "least_cuts" = some (some (.ref fm9)))
    (im9 : PySem.W.isFn K (.ref fm9) = true)
    (lm9 : K.lookup fm9 = some ⟨ocm9, odm9, .func (PySem.W.fnOf "least_cuts" "Net.least_cuts" (defArgs sCuts) (defBody sCuts) (defScope sCuts) .none kVm9 dcm9 pmm9 anm9 cdm9 ctm9), slm9⟩)
    (cm9 : PySem.W.codeIn K cdm9 "Net.least_cuts" = true)
    (km9 : PySem.W.keepIn K (.ref fm9) = true)
    (am10 : PySem.W.findIn K (.ref C) "is_cut" = some (some (.ref fm10)))
    (im10 : PySem.W.isFn K (.ref fm10) = true)
    (lm10 : K.lookup fm10 = some ⟨ocm10, odm10, .func (PySem.W.fnOf "is_cut" "Net.is_cut" (defArgs sIsCut) (defBody sIsCut) (defScope sIsCut) .none kVm10 dcm10 pmm10 anm10 cdm10 ctm10), slm10⟩)
    (cm10 : PySem.W.codeIn K cdm10 "Net.is_cut" = true)
    (km10 : PySem.W.keepIn K (.ref fm10) = true)
    (gf : PySem.W.specialIn K (.ref fm5) "__get__" = some (some (.builtin "function.__get__")))
    (tkw : PySem.W.takesIn K (.ref fm5) = some false)
    (fiw : PySem.W.fnIn K fm5 = true)
    (pg : PySem.W.plainGet K C Str.empty = true)
    (hd : PySem.W.hasDictIn K C = true)
    (po : PySem.W.plainOver K C = true)
    (sa : PySem.W.findIn K (.ref C) "__setattr__" = some (some (.builtin "object.__setattr__")))
    (mk : PySem.W.makesIn K C = true)
    (kc : PySem.W.keepIn K (.ref C) = true)
    (nR : PySem.W.findIn K (.ref C) "rows" = some none)
    (ha : PySem.W.findIn K (.ref C) "__class__" = some (some (.builtin "object.__class__")))
    (hn : PySem.W.specialIn K (.builtin "object.__class__") "__get__" = some (some (.builtin "getset_descriptor.__get__")))
    (tkc : PySem.W.takesIn K (.builtin "object.__class__") = some true)
    (mo : PySem.W.mroIn K C (.type "object") = some true)
    (kit : PySem.W.kitOne K (.ref C) (.ref C) = some true)
    (hNe : PySem.W.findIn K (.ref C) "__ne__" = some (some (.builtin "object.__ne__")))
    (tM : PySem.W.nsIn K mainGlobals "TooMany" = some (some (.ref CM)))
    (xM : K.lookup CM = some (excClassObj nmM qM CM NM bsM [.type "OverflowError", .type "ArithmeticError", .type "Exception", .type "BaseException", .type "object"] true snM subM abM colM ddM n0 n1 n2 n3 n5 "OverflowError.__new__"))
    (saM : PySem.W.findIn K (.ref CM) "__setattr__" = some (some (.builtin "object.__setattr__")))
    (gaM : PySem.W.findIn K (.ref CM) "__getattribute__" = some (some (.builtin "BaseException.__getattribute__")))
    (ggM : PySem.W.findIn K (.ref CM) "__getattr__" = some none)
    (noM : PySem.W.findIn K (.ref CM) "most" = some none)
    (iM : PySem.W.findIn K (.ref CM) "__init__" = some (some (.ref fMI)))
    (tyM : PySem.W.typeIn K (.ref fMI) = some (.type "function"))
    (kM : PySem.W.keepIn K (.ref CM) = true)
    (eM : PySem.W.subIn K (.ref CM) (.type "BaseException") = some true)
    (oM : PySem.W.subIn K (.ref CM) (.type "OverflowError") = some true)
    (sM : PySem.W.mroIn K CM (.ref CM) = some true)
    (tcM : PySem.W.typeIn K (.ref CM) = some (.type "type"))
    (hdM : PySem.W.hasDictIn K CM = true)
    (icM : PySem.W.isClsIn K CM = true)
    (ssM : PySem.W.subIn K (.ref CM) (.ref CM) = some true)
    (opq : PySem.W.nsIn K cStatics "thirdparty.any" = some none)
    (fnM : K.lookup fMI = some ⟨ocM, odM, .func (ksFn "__init__" "TooMany.__init__" (defArgs sManyInit) (defBody sManyInit) (defScope sManyInit) .none kVM dcM pmM anM (.ref cda) ctM cc), slM⟩)
    (cdM : PySem.W.codeIn K (.ref cda) "TooMany.__init__" = true)
    (coM : K.lookup cda = some ⟨coL, coD, .fields vsM, coS⟩)
    (vM : vsM[2]? = some (.str fileM tfM))
    (fiM : ((l.prog.main.file : Str) == fileM) = true)
    (ceM : K.lookup cc = some ⟨ceL, ceD, .cell (some (.ref CM)), ceS⟩)
    (topM : (l.prog.main.scope.names.lookup ("super" : Str)).isSome = false)
    (zS : PySem.W.nsIn K mainGlobals "super" = some none)
    (z_isi : PySem.W.nsIn K mainGlobals "isinstance" = some none)
    (z_str : PySem.W.nsIn K mainGlobals "str" = some none)
    (z_len : PySem.W.nsIn K mainGlobals "len" = some none)
    (z_set : PySem.W.nsIn K mainGlobals "set" = some none)
    (z_list : PySem.W.nsIn K mainGlobals "list" = some none)
    (z_tuple : PySem.W.nsIn K mainGlobals "tuple" = some none)
    (z_dict : PySem.W.nsIn K mainGlobals "dict" = some none)
    (z_sorted : PySem.W.nsIn K mainGlobals "sorted" = some none)
    (z_range : PySem.W.nsIn K mainGlobals "range" = some none)
    (z_sum : PySem.W.nsIn K mainGlobals "sum" = some none)
    (z_int : PySem.W.nsIn K mainGlobals "int" = some none)
    (z_max : PySem.W.nsIn K mainGlobals "max" = some none)
    (z_min : PySem.W.nsIn K mainGlobals "min" = some none)
    (z_enum : PySem.W.nsIn K mainGlobals "enumerate" = some none)
    (cL : PySem.W.nsIn K mainGlobals "LETTERS" = some (some (.str zl tkL)))
    (eL : zl = letters)
    (cl : PySem.W.nsIn K mainGlobals "MOST_LETTERS" = some (some (.int 8 tkl)))
    (cv : PySem.W.nsIn K mainGlobals "MOST_VALUES" = some (some (.int 5 tkv)))
    (ccq : PySem.W.nsIn K mainGlobals "MOST_CUTS" = some (some (.int 8 tkcq))) :
    ∃ fd : FuncData, (∀ (s : Shared) (v : Value), BindsTo s fd ⟨[v], []⟩ [("script", v)]) ∧ ∀ base : Heap, K.In base → base.Ns mainGlobals mg → FnOk l.prog w K mg base CX0 12 fa fd ["script"] (spLaw K) := by
  have e := hfa.symm.trans (PySem.W.mg_of X G ag14)
  cases e
  subst eL
  have gN : mg "Net" = some (.ref C) := PySem.W.mg_of X G aC
  have T : NetK K C := ⟨⟨pg, hd, po, sa⟩, nR, ha, hn, tkc, mo, kit⟩
  have Bb : Bt mg := ⟨PySem.W.mg_none_of X G z_isi, PySem.W.mg_none_of X G z_str, PySem.W.mg_none_of X G z_len, PySem.W.mg_none_of X G z_set, PySem.W.mg_none_of X G z_list, PySem.W.mg_none_of X G z_tuple, PySem.W.mg_none_of X G z_dict, PySem.W.mg_none_of X G z_sorted, PySem.W.mg_none_of X G z_range, PySem.W.mg_none_of X G z_sum, PySem.W.mg_none_of X G z_int, PySem.W.mg_none_of X G z_max, PySem.W.mg_none_of X G z_min, PySem.W.mg_none_of X G z_enum, ⟨_, PySem.W.mg_of X G cL⟩, ⟨_, PySem.W.mg_of X G cl⟩, ⟨_, PySem.W.mg_of X G cv⟩, ⟨_, PySem.W.mg_of X G ccq⟩⟩
  have MT : ManyTxt l.prog K mg CM fMI cc cda :=
    { gC := PySem.W.mg_of X G tM, gS := PySem.W.mg_none_of X G zS, cls := ⟨nmM, qM, NM, bsM, snM, subM, abM, colM, ddM, n0, n1, n2, n3, n5, xM⟩, sa := saM, ga := gaM, gg := ggM, noN := noM, iC := iM, tC := tyM, kC := kM, exC := eM, ofC := oM, selfC := sM, tyC := tcM, hdC := hdM,
      te := exm_self eM icM tcM ssM, opq := opq, fn := ⟨_, _, _, _, _, _, _, _, fnM⟩, cdq := cdM, code := ⟨_, _, _, _, _, _, coM, vM, fiM⟩, cell := ⟨_, _, _, ceM⟩, top := topM }
  have Fg1 := fun_mk (st := sIsName) lg1 cg1 kg1
  have bg1 := Fg1.binds (ps := ["value"]) fun _ _ _ _ _ _ us hl => match us, hl with | [_], _ => rfl
  have Gg1 : Gf K mg "is_name" sIsName ["value"] _ _ := ⟨Fg1, PySem.W.mg_of X G ag1, bg1⟩
  have Fg2 := fun_mk (st := sIsNeeds) lg2 cg2 kg2
  have bg2 := Fg2.binds (ps := ["needs", "names"]) fun _ _ _ _ _ _ us hl => match us, hl with | [_, _], _ => rfl
  have Gg2 : Gf K mg "is_needs" sIsNeeds ["needs", "names"] _ _ := ⟨Fg2, PySem.W.mg_of X G ag2, bg2⟩
  have Fg3 := fun_mk (st := sRising) lg3 cg3 kg3
  have bg3 := Fg3.binds (ps := ["many", "low", "size"]) fun _ _ _ _ _ _ us hl => match us, hl with | [_, _, _], _ => rfl
  have Gg3 : Gf K mg "rising_tuples" sRising ["many", "low", "size"] _ _ := ⟨Fg3, PySem.W.mg_of X G ag3, bg3⟩
  have Fg4 := fun_mk (st := sPool) lg4 cg4 kg4
  have bg4 := Fg4.binds (ps := ["script", "k"]) fun _ _ _ _ _ _ us hl => match us, hl with | [_, _], _ => rfl
  have Gg4 : Gf K mg "_law_pool" sPool ["script", "k"] _ _ := ⟨Fg4, PySem.W.mg_of X G ag4, bg4⟩
  have Fg5 := fun_mk (st := sTake) lg5 cg5 kg5
  have bg5 := Fg5.binds (ps := ["pool", "many"]) fun _ _ _ _ _ _ us hl => match us, hl with | [_, _], _ => rfl
  have Gg5 : Gf K mg "_law_take" sTake ["pool", "many"] _ _ := ⟨Fg5, PySem.W.mg_of X G ag5, bg5⟩
  have Fg6 := fun_mk (st := sOne) lg6 cg6 kg6
  have bg6 := Fg6.binds (ps := ["pool", "some"]) fun _ _ _ _ _ _ us hl => match us, hl with | [_, _], _ => rfl
  have Gg6 : Gf K mg "_law_one" sOne ["pool", "some"] _ _ := ⟨Fg6, PySem.W.mg_of X G ag6, bg6⟩
  have Fg7 := fun_mk (st := sNeeds) lg7 cg7 kg7
  have bg7 := Fg7.binds (ps := ["pool", "rings"]) fun _ _ _ _ _ _ us hl => match us, hl with | [_, _], _ => rfl
  have Gg7 : Gf K mg "_law_needs" sNeeds ["pool", "rings"] _ _ := ⟨Fg7, PySem.W.mg_of X G ag7, bg7⟩
  have Fg8 := fun_mk (st := sHasRing) lg8 cg8 kg8
  have bg8 := Fg8.binds (ps := ["needs"]) fun _ _ _ _ _ _ us hl => match us, hl with | [_], _ => rfl
  have Gg8 : Gf K mg "_law_has_ring" sHasRing ["needs"] _ _ := ⟨Fg8, PySem.W.mg_of X G ag8, bg8⟩
  have Fg9 := fun_mk (st := sCut) lg9 cg9 kg9
  have bg9 := Fg9.binds (ps := ["needs", "pairs"]) fun _ _ _ _ _ _ us hl => match us, hl with | [_, _], _ => rfl
  have Gg9 : Gf K mg "_law_cut" sCut ["needs", "pairs"] _ _ := ⟨Fg9, PySem.W.mg_of X G ag9, bg9⟩
  have Fg10 := fun_mk (st := sOnRings) lg10 cg10 kg10
  have bg10 := Fg10.binds (ps := ["needs"]) fun _ _ _ _ _ _ us hl => match us, hl with | [_], _ => rfl
  have Gg10 : Gf K mg "_law_on_rings" sOnRings ["needs"] _ _ := ⟨Fg10, PySem.W.mg_of X G ag10, bg10⟩
  have Fg11 := fun_mk (st := sSets) lg11 cg11 kg11
  have bg11 := Fg11.binds (ps := ["size", "many"]) fun _ _ _ _ _ _ us hl => match us, hl with | [_, _], _ => rfl
  have Gg11 : Gf K mg "_law_sets" sSets ["size", "many"] _ _ := ⟨Fg11, PySem.W.mg_of X G ag11, bg11⟩
  have Fg12 := fun_mk (st := sDue) lg12 cg12 kg12
  have bg12 := Fg12.binds (ps := ["needs"]) fun _ _ _ _ _ _ us hl => match us, hl with | [_], _ => rfl
  have Gg12 : Gf K mg "_law_due" sDue ["needs"] _ _ := ⟨Fg12, PySem.W.mg_of X G ag12, bg12⟩
  have Fg13 := fun_mk (st := sTold) lg13 cg13 kg13
  have bg13 := Fg13.binds (ps := ["net"]) fun _ _ _ _ _ _ us hl => match us, hl with | [_], _ => rfl
  have Gg13 : Gf K mg "_law_told" sTold ["net"] _ _ := ⟨Fg13, PySem.W.mg_of X G ag13, bg13⟩
  have Fg14 := fun_mk (st := sLaw) lg14 cg14 kg14
  have Fm1 := fun_mk (st := sInit) lm1 cm1 km1
  have bm1 := Fm1.binds (ps := ["self", "needs"]) fun _ _ _ _ _ _ us hl => match us, hl with | [_, _], _ => rfl
  have Gm1 : Gm K C "__init__" "Net.__init__" sInit ["self", "needs"] _ _ := ⟨Fm1, ⟨am1, im1, km1⟩, bm1⟩
  have Fm2 := fun_mk (st := sLook) lm2 cm2 km2
  have bm2 := Fm2.binds (ps := ["self", "name"]) fun _ _ _ _ _ _ us hl => match us, hl with | [_, _], _ => rfl
  have Gm2 : Gm K C "look_at_name" "Net.look_at_name" sLook ["self", "name"] _ _ := ⟨Fm2, ⟨am2, im2, km2⟩, bm2⟩
  have Fm3 := fun_mk (st := sEq) lm3 cm3 km3
  have bm3 := Fm3.binds (ps := ["self", "other"]) fun _ _ _ _ _ _ us hl => match us, hl with | [_, _], _ => rfl
  have Gm3 : Gm K C "__eq__" "Net.__eq__" sEq ["self", "other"] _ _ := ⟨Fm3, ⟨am3, im3, km3⟩, bm3⟩
  have Fm4 := fun_mk (st := sPairs) lm4 cm4 km4
  have bm4 := Fm4.binds (ps := ["self"]) fun _ _ _ _ _ _ us hl => match us, hl with | [_], _ => rfl
  have Gm4 : Gm K C "pairs" "Net.pairs" sPairs ["self"] _ _ := ⟨Fm4, ⟨am4, im4, km4⟩, bm4⟩
  have Fm5 := fun_mk (st := sWithout) lm5 cm5 km5
  have Fm6 := fun_mk (st := sReaches) lm6 cm6 km6
  have bm6 := Fm6.binds (ps := ["self", "name"]) fun _ _ _ _ _ _ us hl => match us, hl with | [_, _], _ => rfl
  have Gm6 : Gm K C "reaches" "Net.reaches" sReaches ["self", "name"] _ _ := ⟨Fm6, ⟨am6, im6, km6⟩, bm6⟩
  have Fm7 := fun_mk (st := sOrder) lm7 cm7 km7
  have bm7 := Fm7.binds (ps := ["self"]) fun _ _ _ _ _ _ us hl => match us, hl with | [_], _ => rfl
  have Gm7 : Gm K C "order" "Net.order" sOrder ["self"] _ _ := ⟨Fm7, ⟨am7, im7, km7⟩, bm7⟩
  have Fm8 := fun_mk (st := sLacks) lm8 cm8 km8
  have bm8 := Fm8.binds (ps := ["self", "name", "made"]) fun _ _ _ _ _ _ us hl => match us, hl with | [_, _, _], _ => rfl
  have Gm8 : Gm K C "lacks" "Net.lacks" sLacks ["self", "name", "made"] _ _ := ⟨Fm8, ⟨am8, im8, km8⟩, bm8⟩
  have Fm9 := fun_mk (st := sCuts) lm9 cm9 km9
  have bm9 := Fm9.binds (ps := ["self"]) fun _ _ _ _ _ _ us hl => match us, hl with | [_], _ => rfl
  have Gm9 : Gm K C "least_cuts" "Net.least_cuts" sCuts ["self"] _ _ := ⟨Fm9, ⟨am9, im9, km9⟩, bm9⟩
  have Fm10 := fun_mk (st := sIsCut) lm10 cm10 km10
  have bm10 := Fm10.binds (ps := ["self", "cut"]) fun _ _ _ _ _ _ us hl => match us, hl with | [_, _], _ => rfl
  have Gm10 : Gm K C "is_cut" "Net.is_cut" sIsCut ["self", "cut"] _ _ := ⟨Fm10, ⟨am10, im10, km10⟩, bm10⟩
  have BW : BMeth K C "without" fm5 := ⟨⟨am5, im5, km5⟩, gf, tkw, by decide +kernel, fiw⟩
  have Mn : Mk K C fm1 := ⟨mk, am1, im1, kc⟩
  refine ⟨PySem.W.fnOf "law" "law" (defArgs sLaw) (defBody sLaw) (defScope sLaw) .none kVg14 dcg14 pmg14 ang14 cdg14 ctg14, fun s v => .of_eq rfl, fun base _ _ => ?_⟩
  have I2 : FnOk l.prog w K mg base CX0 2 fm1 _ ["self", "needs"] (spInit K C) := ok_init Gm1.F T Bb Gg1 Gg2
  have P1 : FnOk l.prog w K mg base CX0 1 fm4 _ ["self"] (spPairs K C) := ok_pairs Gm4.F T
  have R2 : FnOk l.prog w K mg base CX0 2 fm6 _ ["self", "name"] (spReach K C) := ok_reach Gm6.F T Bb Gm2
  have O2 : FnOk l.prog w K mg base CX0 2 fm7 _ ["self"] (spOrder K C) := ok_order Gm7.F T Bb Gm8
  have W4 : FnR l.prog w K mg base CX0 4 fm5 (spWithoutV K C) := ok_without Fm5 T Bb Gm4 Mn Gm1.F Gm1.b gN Gg1 Gg2
  have I5 : FnOk l.prog w K mg base CX0 5 fm10 _ ["self", "cut"] (spIsCut K C) := ok_isCut Gm10.F T BW W4 Gm7 O2
  have K10 : FnOk l.prog w K mg base (L2.CX l.prog w) 10 fm9 _ ["self"] (spCuts K C CM) := ok_cuts Gm9.F T Bb MT Gm4 P1 Gm6 R2 Gg3 Gm10 I5
  have E1 : FnOk l.prog w K mg base CX0 1 fm3 _ ["self", "other"] (spEq (SameNet K C)) := ok_eq Gm3.F T Bb gN
  have D3 : FnOk l.prog w K mg base CX0 3 fg7 _ ["pool", "rings"] (spDraw K) := ok_draw Gg7.F Bb Gg5 Gg6
  have U2 : FnOk l.prog w K mg base CX0 2 fg12 _ ["needs"] (spDue K) := ok_due Gg12.F Bb Gg10 Gg11 Gg8 Gg9
  have T11 : FnOk l.prog w K mg base CX0 11 fg13 _ ["net"] (spTold K C) := ok_told Gg13.F T MT Gm9 K10
  exact ok_law Fg14 Bb T gN Mn Gm1.b I2 Gm3.b E1 am3 im3 hNe Gg4 Gg7 D3 Gg10 Gg12 U2 Gg13 T11
theorem walk {l : PySem.W.OpenLaw} {q : Program} {loose : List Str} {XP : (Str → Option Value) → Heap → Prop} {YP : World → Heap → Prop} {d : DefRec} {K : Params → PySem.W.Frag} (hn : l.most = some 63) (hdf : d.params.defaults = [])
    (hY : ∀ (w : World) (h : Heap), YP w h → (K w.params).In h)
    (F : ∀ (w : World) (mg : Str → Option Value) (fa : Addr) (h : Heap), (K w.params).In h → h.Ns mainGlobals mg → mg d.name = some (.ref fa) →
      ∃ fd : FuncData, (∀ (s : Shared) (u : Value), BindsTo s fd ⟨[u], []⟩ [("script", u)]) ∧ ∀ base : Heap, (K w.params).In base → base.Ns mainGlobals mg → FnOk l.prog w (K w.params) mg base CX0 12 fa fd ["script"] (spLaw (K w.params))) :
    PySem.W.WalkO q loose XP YP l.row.toRowW d [] (fun f vs => PySem.call f vs) :=
  L2.walk_of (n := 63) (k := 12) (x := "script") (CX := fun _ => CX0) (sp := fun w => spLaw (K w.params)) hn (by decide) hdf ⟨rfl, by decide, by decide⟩ hY F (fun _ _ a ns hl _ hS => ⟨a, ns, rfl, hS, hl, fun _ => rfl⟩) fun _ _ _ _ _ z => z
end Fm
set_option Elab.async false
set_option linter.all false
open PySem PySem.W PyProof.Rows
set_option maxRecDepth 100000 in
set_option maxHeartbeats 0 in
theorem PySem.Challenge.cw_firstmade_k08_whole_least_cuts_holds : PySem.Challenge.rw_firstmade_k08_whole_least_cuts.Holds := by
  w_on; o_law; k_head; (case hw => w_witness2)
  k_fill
  refine Fm.walk (l := PySem.Challenge.rw_firstmade_k08_whole_least_cuts) rfl rfl (fun w h Y => PySem.W.kIn_of Y) ?F
  case F =>
    intro w mg fa h KX G hmg
    refine' Fm.all_mk KX G hmg ?aC ?ag1 ?lg1 ?cg1 ?kg1 ?ag2 ?lg2 ?cg2 ?kg2 ?ag3 ?lg3 ?cg3 ?kg3 ?ag4 ?lg4 ?cg4 ?kg4 ?ag5 ?lg5 ?cg5 ?kg5 ?ag6 ?lg6 ?cg6 ?kg6 ?ag7 ?lg7 ?cg7 ?kg7 ?ag8 ?lg8 ?cg8 ?kg8 ?ag9 ?lg9 ?cg9 ?kg9 ?ag10 ?lg10 ?cg10 ?kg10 ?ag11 ?lg11 ?cg11 ?kg11 ?ag12 ?lg12 ?cg12 ?kg12 ?ag13 ?lg13 ?cg13 ?kg13 ?ag14 ?lg14 ?cg14 ?kg14 ?am1 ?im1 ?lm1 ?cm1 ?km1 ?am2 ?im2 ?lm2 ?cm2 ?km2 ?am3 ?im3 ?lm3 ?cm3 ?km3 ?am4 ?im4 ?lm4 ?cm4 ?km4 ?am5 ?im5 ?lm5 ?cm5 ?km5 ?am6 ?im6 ?lm6 ?cm6 ?km6 ?am7 ?im7 ?lm7 ?cm7 ?km7 ?am8 ?im8 ?lm8 ?cm8 ?km8 ?am9 ?im9 ?lm9 ?cm9 ?km9 ?am10 ?im10 ?lm10 ?cm10 ?km10 ?gf ?tkw ?fiw ?pg ?hd ?po ?sa ?mk ?kc ?nR ?ha ?hn ?tkc ?mo ?kit ?hNe ?tM ?xM ?saM ?gaM ?ggM ?noM ?iM ?tyM ?kM ?eM ?oM ?sM ?tcM ?hdM ?icM ?ssM ?opq ?fnM ?cdM ?coM ?vM ?fiM ?ceM ?topM ?zS ?z_isi ?z_str ?z_len ?z_set ?z_list ?z_tuple ?z_dict ?z_sorted ?z_range ?z_sum ?z_int ?z_max ?z_min ?z_enum ?cL ?eL ?cl ?cv ?ccq
    (case aC => k_is)
    (case ag1 => k_is)
    (case lg1 => k_is)
    (case cg1 => k_is)
    (case kg1 => k_is)
    (case ag2 => k_is)
    (case lg2 => k_is)
    (case cg2 => k_is)
    (case kg2 => k_is)
    (case ag3 => k_is)
    (case lg3 => k_is)
    (case cg3 => k_is)
    (case kg3 => k_is)
    (case ag4 => k_is)
    (case lg4 => k_is)
    (case cg4 => k_is)
    (case kg4 => k_is)
    (case ag5 => k_is)
    (case lg5 => k_is)
    (case cg5 => k_is)
    (case kg5 => k_is)
    (case ag6 => k_is)
    (case lg6 => k_is)
    (case cg6 => k_is)
    (case kg6 => k_is)
    (case ag7 => k_is)
    (case lg7 => k_is)
    (case cg7 => k_is)
    (case kg7 => k_is)
    (case ag8 => k_is)
    (case lg8 => k_is)
    (case cg8 => k_is)
    (case kg8 => k_is)
    (case ag9 => k_is)
    (case lg9 => k_is)
    (case cg9 => k_is)
    (case kg9 => k_is)
    (case ag10 => k_is)
    (case lg10 => k_is)
    (case cg10 => k_is)
    (case kg10 => k_is)
    (case ag11 => k_is)
    (case lg11 => k_is)
    (case cg11 => k_is)
    (case kg11 => k_is)
    (case ag12 => k_is)
    (case lg12 => k_is)
    (case cg12 => k_is)
    (case kg12 => k_is)
    (case ag13 => k_is)
    (case lg13 => k_is)
    (case cg13 => k_is)
    (case kg13 => k_is)
    (case ag14 => k_is)
    (case lg14 => k_is)
    (case cg14 => k_is)
    (case kg14 => k_is)
    (case am1 => k_is)
    (case im1 => k_is)
    (case lm1 => k_is)
    (case cm1 => k_is)
    (case km1 => k_is)
    (case am2 => k_is)
    (case im2 => k_is)
    (case lm2 => k_is)
    (case cm2 => k_is)
    (case km2 => k_is)
    (case am3 => k_is)
    (case im3 => k_is)
    (case lm3 => k_is)
    (case cm3 => k_is)
    (case km3 => k_is)
    (case am4 => k_is)
    (case im4 => k_is)
    (case lm4 => k_is)
    (case cm4 => k_is)
    (case km4 => k_is)
    (case am5 => k_is)
    (case im5 => k_is)
    (case lm5 => k_is)
    (case cm5 => k_is)
    (case km5 => k_is)
    (case am6 => k_is)
    (case im6 => k_is)
    (case lm6 => k_is)
    (case cm6 => k_is)
    (case km6 => k_is)
    (case am7 => k_is)
    (case im7 => k_is)
    (case lm7 => k_is)
    (case cm7 => k_is)
    (case km7 => k_is)
    (case am8 => k_is)
    (case im8 => k_is)
    (case lm8 => k_is)
    (case cm8 => k_is)
    (case km8 => k_is)
    (case am9 => k_is)
    (case im9 => k_is)
    (case lm9 => k_is)
    (case cm9 => k_is)
    (case km9 => k_is)
    (case am10 => k_is)
    (case im10 => k_is)
    (case lm10 => k_is)
    (case cm10 => k_is)
    (case km10 => k_is)
    (case gf => k_is)
    (case tkw => k_is)
    (case fiw => k_is)
    (case pg => k_is)
    (case hd => k_is)
    (case po => k_is)
    (case sa => k_is)
    (case mk => k_is)
    (case kc => k_is)
    (case nR => k_is)
    (case ha => k_is)
    (case hn => k_is)
    (case tkc => k_is)
    (case mo => k_is)
    (case kit => first | k_is | rfl)
    (case hNe => k_is)
    (case tM => k_is)
    (case xM => k_is)
    (case saM => k_is)
    (case gaM => k_is)
    (case ggM => k_is)
    (case noM => k_is)
    (case iM => k_is)
    (case tyM => k_is)
    (case kM => k_is)
    (case eM => k_is)
    (case oM => k_is)
    (case sM => first | k_is | rfl)
    (case tcM => k_is)
    (case hdM => k_is)
    (case icM => k_is)
    (case ssM => first | rfl | k_is)
    (case opq => k_is)
    (case fnM => k_is)
    (case cdM => k_is)
    (case coM => k_is)
    (case vM => first | rfl | k_is)
    (case fiM => decide +kernel)
    (case ceM => k_is)
    (case topM => decide +kernel)
    (case zS => k_is)
    (case z_isi => k_is)
    (case z_str => k_is)
    (case z_len => k_is)
    (case z_set => k_is)
    (case z_list => k_is)
    (case z_tuple => k_is)
    (case z_dict => k_is)
    (case z_sorted => k_is)
    (case z_range => k_is)
    (case z_sum => k_is)
    (case z_int => k_is)
    (case z_max => k_is)
    (case z_min => k_is)
    (case z_enum => k_is)
    (case cL => k_is)
    (case eL => first | rfl | decide +kernel)
    (case cl => k_is)
    (case cv => k_is)
    (case ccq => k_is)
