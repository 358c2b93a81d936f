import PyProof.Rows.All
import Wide.All
import OpenK.AllK
import Wide.FinOn
import HandS.ForMost
import PyProof.EqAt
import PyProof.EqKinds
import PyProof.TupleCall
import PySem.Challenge.RW_facetlore_k83_claims_told_from_wrong_tex
import HandS.Exc
import HandS.IsInst
import HandS.Codes
import HandS.ExcOwn
import HandS.TryOnly
import HandS.WordsExc
import KE.KExcSuper
import KE.RegKSuper
import KE.KIntText
import HandS.Style
import HandS.Wide
import KE.KExcIs
import PyProof.P3Eq
set_option Elab.async false
set_option linter.all false
namespace FL
open PySem PySem.Spec PyProof.Rows L2
/-! ### texts as lists of codes -/
abbrev S (l : List Nat) : Str := ⟨l.toArray⟩
theorem S_of (x : Str) : S x.cps.toList = x := by
  obtain ⟨⟨l⟩⟩ := x
  rfl
theorem S_len (l : List Nat) : (S l).length = l.length := rfl
theorem S_list (l : List Nat) : (S l).cps.toList = l := rfl
theorem S_inj {a b : List Nat} (h : S a = S b) : a = b := by
  injection h with h
  injection h
theorem S_app (a b : List Nat) : S a ++ S b = S (a ++ b) := by
  show (⟨_⟩ : Str) = ⟨_⟩
  congr 1
  simp
def jn (a : List Nat) : List (List Nat) → List Nat
  | [] => []
  | [x] => x
  | x :: y :: r => x ++ a ++ jn a (y :: r)
theorem join_S (a : List Nat) : ∀ ys : List (List Nat), Str.join (S a) (ys.map S) = S (jn a ys)
  | [] => rfl
  | [x] => rfl
  | x :: y :: r => by
    show S x ++ S a ++ Str.join (S a) ((y :: r).map S) = S (x ++ a ++ jn a (y :: r))
    rw [join_S a (y :: r), S_app, S_app]
theorem join_txt (a : List Nat) (ys : List (List Nat)) : Txt.join (S a) (ys.map S) = S (jn a ys) := by rw [show Txt.join (S a) (ys.map S) = Str.join (S a) (ys.map S) from PySem.StrLaws.glued_eq_join _ _, join_S]
theorem jn_nil : ∀ ys : List (List Nat), jn [] ys = ys.flatten
  | [] => rfl
  | [x] => by simp [jn]
  | x :: y :: r => by
    show x ++ [] ++ jn [] (y :: r) = _
    rw [jn_nil (y :: r)]
    simp
/-- the sizes as join asks them -/
theorem sum_S (ys : List (List Nat)) : ((ys.map S).map fun x => x.length).sum = ys.flatten.length := by
  induction ys with
  | nil => rfl
  | cons y r ih =>
    rw [List.map_cons, List.map_cons, List.sum_cons, List.flatten_cons, List.length_append, ih]
    rfl
theorem flat_one {cs : List Nat} : (cs.map fun c => [c]).flatten = cs := by
  induction cs with
  | nil => rfl
  | cons c r ih =>
    rw [List.map_cons, List.flatten_cons, ih]
    rfl
end FL

set_option Elab.async false
set_option linter.all false
set_option maxRecDepth 100000
set_option maxHeartbeats 1000000
namespace FL
open PySem PySem.Spec PyProof.Rows L2

/-! ### the text by places -/
def topS (i : Nat) : Stmt := PySem.Challenge.pw_facetlore_k83_claims_told_from_wrong_tex.main.body.getD i (.Pass ⟨0, 0, 0, 0⟩)

/-! ### what stands of a def -/
structure DefAt (K : PySem.W.Frag) (mg : Str → Option Value) (x : Str) (st : Stmt) (ps : List Str) (f : Addr) (fd : FuncData) : Prop where
  F : Fun K x x st f fd
  m : mg x = some (.ref f)
  b : Binds K fd ps []

/-! ### heaps: all but the object at c -/
def But (c : Addr) (H H' : Hp) : Prop := ∀ b o, b ≠ c → H b = some o → H' b = some o
theorem But.refl (c : Addr) (H : Hp) : But c H H := fun _ _ _ h => h
theorem But.trans {c : Addr} {H H1 H2 : Hp} (a : But c H H1) (b : But c H1 H2) : But c H H2 := fun x o n h => b x o n (a x o n h)
theorem But.put {c : Addr} {H H1 : Hp} {o : HO} (a : But c H H1) : But c H (upd H1 c o) := fun x u n h => by
  rw [upd_ne n]; exact a x u n h
theorem But.new {c p : Addr} {H H1 : Hp} {o : HO} (a : But c H H1) (n : H1 p = none) : But c H (upd H1 p o) := fun x u k h => by
  rw [upd_ne (ne_of_none (a x u k h) n)]; exact a x u k h
theorem But.of_same {c : Addr} {H H1 : Hp} (a : Same H H1) : But c H H1 := fun x u _ h => a x u h
theorem same_new {H H1 : Hp} {p : Addr} {o : HO} (a : Same H H1) (n : H1 p = none) : Same H (upd H1 p o) := fun b x e => by
  rw [upd_ne (ne_of_none (a b x e) n)]; exact a b x e
/-- an object that was not there before may change -/
theorem same_mut {H H1 : Hp} {p : Addr} {o : HO} (a : Same H H1) (n : H p = none) : Same H (upd H1 p o) := fun b x e => by
  rw [upd_ne (ne_of_none e n)]; exact a b x e

/-! ### the draws -/
structure CurD (H : Hp) (c a : Addr) (ns : List Int) (p acc k : Int) : Prop where
  hc : H c = some (.lst [.ref a, .int p, .int acc, .int k])
  ha : H a = some (.lst (ns.map V.int))
  hp : 0 ≤ p
  hacc : 0 ≤ acc
def Cur (H : Hp) (c a : Addr) (ns : List Int) : Prop := ∃ p acc k, CurD H c a ns p acc k
theorem CurD.ne {H : Hp} {c a : Addr} {ns : List Int} {p acc k : Int} (x : CurD H c a ns p acc k) : a ≠ c := fun e => by
  have h := x.ha
  rw [e, x.hc] at h
  injection h with h
  injection h with h
  cases ns with
  | nil => cases h
  | cons n r => injection h with h1 h2; cases h1
theorem CurD.put {H H' : Hp} {c a : Addr} {ns : List Int} {p acc k p' acc' k' : Int} (x : CurD H c a ns p acc k) (b : But c H H') (hp : 0 ≤ p') (hacc : 0 ≤ acc') :
    CurD (upd H' c (.lst [.ref a, .int p', .int acc', .int k'])) c a ns p' acc' k' :=
  ⟨upd_same, by rw [upd_ne x.ne]; exact b a _ x.ne x.ha, hp, hacc⟩
theorem CurD.keep {H H' : Hp} {c a : Addr} {ns : List Int} {p acc k : Int} (x : CurD H c a ns p acc k) (b : Same H H') : CurD H' c a ns p acc k :=
  ⟨b _ _ x.hc, b _ _ x.ha, x.hp, x.hacc⟩
theorem Cur.keep {H H' : Hp} {c a : Addr} {ns : List Int} (x : Cur H c a ns) (b : Same H H') : Cur H' c a ns := by
  obtain ⟨p, acc, k, d⟩ := x
  exact ⟨p, acc, k, d.keep b⟩
theorem ix4 {a b c d : V} : atI [a, b, c, d] 0 = some a ∧ atI [a, b, c, d] 1 = some b ∧ atI [a, b, c, d] 2 = some c ∧ atI [a, b, c, d] 3 = some d := ⟨rfl, rfl, rfl, rfl⟩

section
variable {P : Program} {w : World} {K : PySem.W.Frag} {mg : Str → Option Value} {base : Heap}

def spFill : Sp := fun vs H Q _ => ∃ c a ns, vs = [.ref c] ∧ Cur H c a ns ∧ ∀ H' n, But c H H' → Cur H' c a ns → 0 ≤ n → Q (.int n) H'
def spTake : Sp := fun vs H Q _ => ∃ c a ns m, vs = [.ref c, .int m] ∧ Cur H c a ns ∧ 0 < m ∧ m < 1073741824 ∧ ∀ H' n, But c H H' → Cur H' c a ns → 0 ≤ n → n < m → Q (.int n) H'

abbrev s_law_fill : Stmt := topS 25
abbrev N_law_fill : List Str := ["c", "number"]
theorem sc_law_fill : FnScope N_law_fill ["c"] (defScope s_law_fill) := ⟨rfl, rfl, rfl, by decide +kernel, rfl, by decide +kernel, by decide +kernel⟩
theorem ok_law_fill {f : Addr} {fd : FuncData} (D : DefAt K mg "_law_fill" s_law_fill ["c"] f fd) (z_len : mg "len" = none) (z_int : mg "int" = none) : FnOk P w K mg base CX0 1 f fd ["c"] spFill := by
  refine D.F.ok sc_law_fill (fun vs H Q E h => ?_) (fun cdv A outer s H vs Q E hr h => ?_)
  · obtain ⟨c, a, ns, rfl, _⟩ := h
    rfl
  obtain ⟨c, a, ns, rfl, hC, q⟩ := h
  refine ⟨_, (pss_cons (ps_asg (pe_op op_add (pe_ix ix_list (pv 0) pe_int (fun _ _ => rfl)) pe_int) (pg_sub (pv 0) pe_int set_list))
      (pss_cons (ps_set (i := 1) sc_law_fill.nd rfl (Or.inl rfl) (pe_op op_add (pe_op op_mul (pe_ix ix_list (pv 0) pe_int (fun _ _ => rfl)) pe_int) pe_int))
      (C8.pss_cut (ps_if (pt_cmpR op_lt (pe_ix ix_list (pv 0) pe_int (fun _ _ => rfl)) (pe_callB call_len_seq (by rfl) z_len (by decide +kernel) (pa_cons (pe_ix ix_list (pv 0) pe_int (fun _ _ => rfl)) pa_nil)) (nomark _)) (pss_cons (ps_set (i := 1) sc_law_fill.nd rfl (Or.inl rfl) (pe_ix ix_list (pe_ix ix_list (pv 0) pe_int (fun _ _ => rfl)) (pe_ix ix_list (pv 0) pe_int (fun _ _ => rfl)) (fun _ _ => rfl)))
        (pss_cons (ps_asg (pe_op op_add (pe_ix ix_list (pv 0) pe_int (fun _ _ => rfl)) pe_int) (pg_sub (pv 0) pe_int set_list))
        (C8.pss_cut (ps_if (pt_cmpR op_lt (pv 1) pe_int (nomark _)) (pss_one (ps_set (i := 1) sc_law_fill.nd rfl (Or.inl rfl) (pe_op op_sub (pe_op op_sub pe_int pe_int) (pv 1))))
          pss_nil)
        (pss_one (ps_if (pt_cmpR op_ge (pv 1) (pe_op op_pow pe_int pe_int) (nomark _)) (pss_one (ps_ret (pv 1)))
          pss_nil)))))
        pss_nil)
      (C8.pss_cut (ps_if (PW.pt (pw_and (pt_truth (pe_ix ix_list (pv 0) pe_int (fun _ _ => rfl)) (by intro _; rfl)) (pw_and1 (pt_cmpR op_ge (pe_ix ix_list (pv 0) pe_int (fun _ _ => rfl)) (pe_callB call_len_seq (by rfl) z_len (by decide +kernel) (pa_cons (pe_ix ix_list (pv 0) pe_int (fun _ _ => rfl)) pa_nil)) (nomark _))))) (pss_one (ps_set (i := 1) sc_law_fill.nd rfl (Or.inl rfl) (pe_op op_add (pv 1) (pe_op op_mod (pe_callTy call_int1 (by rfl) z_int (by decide +kernel) (pa_cons (pe_ix ix_list (pe_ix ix_list (pv 0) pe_int (fun _ _ => rfl)) (pe_un un_neg pe_int) (fun _ _ => rfl)) pa_nil)) pe_int))))
        pss_nil)
      (pss_cons (ps_set (i := 1) sc_law_fill.nd rfl (Or.inl rfl) (pe_op op_mod (pe_callTy call_int1 (by rfl) z_int (by decide +kernel) (pa_cons (pe_op op_add (pe_op op_mul (pv 1) pe_int) (pe_op op_mul (pe_ix ix_list (pv 0) pe_int (fun _ _ => rfl)) pe_int)) pa_nil)) pe_int))
      (pss_one (ps_ret (pe_op op_add (pe_op op_mod (pe_callTy call_int1 (by rfl) z_int (by decide +kernel) (pa_cons (pe_op op_add (pe_op op_add (pe_op op_mul (pv 1) (pv 1)) (pe_op op_mul (pe_ix ix_list (pv 0) pe_int (fun _ _ => rfl)) pe_int)) pe_int) pa_nil)) pe_int) pe_int)))))))), ?_⟩
  obtain ⟨p, acc, k, d⟩ := hC
  have hl := SqL.of (K := K) d.hc
  -- c[3] = c[3] + 1
  refine ⟨_, rfl, c, _, 3, _, rfl, rfl, hl, rfl, _, _, rfl, rfl, _, rfl, c, _, 3, 3, rfl, rfl, d.hc, rfl, ?_⟩
  have d1 := d.put (But.refl c H) d.hp d.hacc (p' := p) (acc' := acc) (k' := k + 1)
  have b1 : But c H _ := (But.refl c H).put (o := .lst [.ref a, .int p, .int acc, .int (k + 1)])
  show tSeq _ _ _ _ (upd H c (.lst [.ref a, .int p, .int acc, .int (k + 1)]))
  generalize upd H c (.lst [.ref a, .int p, .int acc, .int (k + 1)]) = H1 at d1 b1 ⊢
  have hl1 := SqL.of (K := K) d1.hc
  have ha1 := SqL.of (K := K) d1.ha
  -- number = c[3] * 69621 + 12345
  refine ⟨_, rfl, c, _, 3, _, rfl, rfl, hl1, rfl, _, _, rfl, rfl, .inr (by decide), _, _, rfl, rfl, ?_⟩
  -- if c[1] < len(c[0])
  refine ⟨fun σ' H' => ∃ n p', σ' = [some (.ref c), some (.int n)] ∧ CurD H' c a ns p' acc (k + 1) ∧ But c H H', ?_, ?_⟩
  · refine ⟨_, rfl, c, _, 1, _, rfl, rfl, hl1, rfl, _, rfl, c, _, 0, _, rfl, rfl, hl1, rfl, a, _, rfl, .inl ha1, _, _, rfl, rfl, _, rfl, ite2 (fun e => ?_) (fun e => ?_)⟩
    · have e' : p < ((ns.map V.int).length : Int) := of_decide_eq_true e
      rw [List.length_map] at e'
      obtain ⟨j, rfl⟩ := Int.eq_ofNat_of_zero_le d1.hp
      have hj : j < ns.length := by omega
      have g : (ns.map V.int)[j]? = some (.int ns[j]) := by rw [List.getElem?_map, List.getElem?_eq_getElem hj]; rfl
      generalize ns[j] = z at g
      -- number = c[0][c[1]]
      refine ⟨_, rfl, c, _, 0, _, rfl, rfl, hl1, rfl, _, rfl, c, _, 1, _, rfl, rfl, hl1, rfl, a, _, _, _, rfl, rfl, ha1, atI_nat g, ?_⟩
      -- c[1] = c[1] + 1
      refine ⟨_, rfl, c, _, 1, _, rfl, rfl, hl1, rfl, _, _, rfl, rfl, _, rfl, c, _, 1, 1, rfl, rfl, d1.hc, rfl, ?_⟩
      have d2 := d1.put (But.refl c H1) (show (0 : Int) ≤ (j : Int) + 1 by omega) d1.hacc (acc' := acc) (k' := k + 1)
      have b2 : But c H _ := b1.put (o := .lst [.ref a, .int ((j : Int) + 1), .int acc, .int (k + 1)])
      show tSeq _ _ _ _ (upd H1 c (.lst [.ref a, .int ((j : Int) + 1), .int acc, .int (k + 1)]))
      generalize upd H1 c (.lst [.ref a, .int ((j : Int) + 1), .int acc, .int (k + 1)]) = H2 at d2 b2 ⊢
      -- if number < 0
      refine ⟨fun σ' H' => ∃ n, σ' = [some (.ref c), some (.int n)] ∧ 0 ≤ n ∧ H' = H2, ?_, ?_⟩
      · refine ⟨_, rfl, _, _, rfl, rfl, _, rfl, ite2 (fun e => ?_) (fun e => ?_)⟩
        · have e' : z < 0 := of_decide_eq_true e
          exact ⟨_, _, rfl, rfl, _, rfl, _, _, rfl, rfl, _, rfl, by omega, rfl⟩
        · have e' : ¬ z < 0 := of_decide_eq_false (Bool.eq_false_iff.mpr e)
          exact ⟨_, rfl, by omega, rfl⟩
      · rintro σ' H' ⟨n, rfl, hn, rfl⟩
        -- if number >= 10 ** 18
        refine ⟨_, rfl, _, _, rfl, rfl, ⟨by decide, by decide, by decide⟩, _, _, rfl, rfl, _, rfl, ite2 (fun e => ?_) (fun e => ?_)⟩
        · exact ⟨_, rfl, q _ n b2 ⟨_, _, _, d2⟩ hn⟩
        · exact ⟨n, _, rfl, d2, b2⟩
    · exact ⟨_, p, rfl, d1, b1⟩
  · rintro σ' H' ⟨n, p', rfl, d', b'⟩
    have hl' := SqL.of (K := K) d'.hc
    have ha' := SqL.of (K := K) d'.ha
    -- if c[0] and c[1] >= len(c[0])
    refine ⟨fun σ'' H'' => ∃ n, σ'' = [some (.ref c), some (.int n)] ∧ H'' = H', ?_, ?_⟩
    · refine ⟨_, rfl, c, _, 0, _, rfl, rfl, hl', rfl, _, .inl ⟨_, ha', rfl⟩, ?_⟩
      refine ite2 (fun e => ?_) (fun e => ?_)
      · refine ⟨_, rfl, c, _, 1, _, rfl, rfl, hl', rfl, _, rfl, c, _, 0, _, rfl, rfl, hl', rfl, a, _, rfl, .inl ha', _, _, rfl, rfl, _, rfl, ite2 (fun e2 => ?_) (fun e2 => ?_)⟩
        · have hne : ns ≠ [] := by
            rintro rfl
            exact absurd e (by decide)
          have g : atI (ns.map V.int) (-1) = some (.int (ns.getLast hne)) := by
            have := atI_last (ns.dropLast.map V.int) (V.int (ns.getLast hne))
            rwa [← List.map_singleton, ← List.map_append, List.dropLast_concat_getLast] at this
          generalize ns.getLast hne = z at g
          refine ⟨_, rfl, _, rfl, c, _, 0, _, rfl, rfl, hl', rfl, _, rfl, a, _, _, _, rfl, rfl, ha', g, .inl ⟨_, rfl, ?_⟩⟩
          exact ⟨_, _, rfl, rfl, (show (0 : Int) < 1000003 by decide), _, _, rfl, rfl, _, rfl, rfl⟩
        · exact ⟨n, rfl, rfl⟩
      · exact ite2 (fun e => absurd e (by simp)) (fun e => ⟨n, rfl, rfl⟩)
    · rintro σ'' H'' ⟨n, rfl, rfl⟩
      -- number = int(number * 48271 + c[3] * 69621) % 2147483647
      refine ⟨_, rfl, _, _, rfl, rfl, .inr (by decide), _, rfl, c, _, 3, _, rfl, rfl, hl', rfl, _, _, rfl, rfl, .inr (by decide), _, _, rfl, rfl, .inl ⟨_, rfl, _, _, rfl, rfl, (show (0 : Int) < 2147483647 by decide), ?_⟩⟩
      dsimp only [gName, List.set]
      have m1 : 0 ≤ (n * 48271 + (k + 1) * 69621) % 2147483647 := Int.emod_nonneg _ (by decide)
      have m2 : (n * 48271 + (k + 1) * 69621) % 2147483647 < 2147483647 := Int.emod_lt_of_pos _ (by decide)
      generalize (n * 48271 + (k + 1) * 69621) % 2147483647 = x at m1 m2 ⊢
      -- return
      refine ⟨_, rfl, _, rfl, _, _, rfl, rfl, .inl ⟨by omega, by omega⟩, _, rfl, c, _, 3, _, rfl, rfl, hl', rfl, _, _, rfl, rfl, .inr (by decide), _, _, rfl, rfl, _, _, rfl, rfl, .inl ⟨_, rfl, _, _, rfl, rfl, (show (0 : Int) < 2305843009213693951 by decide), _, _, rfl, rfl, ?_⟩⟩
      refine q _ _ b' ⟨_, _, _, d'⟩ ?_
      have := Int.emod_nonneg (x * x + (k + 1) * 7919 + 11) (show (2305843009213693951 : Int) ≠ 0 by decide)
      omega
abbrev s_law_take : Stmt := topS 26
abbrev N_law_take : List Str := ["c", "many", "digit"]
theorem sc_law_take : FnScope N_law_take ["c", "many"] (defScope s_law_take) := ⟨rfl, rfl, rfl, by decide +kernel, rfl, by decide +kernel, by decide +kernel⟩
theorem ok_law_take {f g : Addr} {fd gd : FuncData} (D : DefAt K mg "_law_take" s_law_take ["c", "many"] f fd) (D_law_fill : DefAt K mg "_law_fill" s_law_fill ["c"] g gd) (z_len : mg "len" = none) (z_int : mg "int" = none) : FnOk P w K mg base CX0 2 f fd ["c", "many"] spTake := by
  have G_law_fill : FnOk P w K mg base CX0 1 g gd ["c"] spFill := ok_law_fill D_law_fill z_len z_int
  refine D.F.ok sc_law_take (fun vs H Q E h => ?_) (fun cdv A outer s H vs Q E hr h => ?_)
  · obtain ⟨c, a, ns, m, rfl, _⟩ := h
    rfl
  obtain ⟨c, a, ns, m, rfl, hC, hm, hm2, q⟩ := h
  refine ⟨_, (C8.pss_cut (ps_if (pt_cmpR op_lt (pe_ix ix_list (pv 0) pe_int (fun _ _ => rfl)) (pv 1) (nomark _)) (pss_one (ps_asg (pe_call G_law_fill (hr.mono (by first | decide | omega)) (by rfl) D_law_fill.m D_law_fill.F.kp D_law_fill.b .nil pass0 (pa_cons (pv 0) pa_nil)) (pg_sub (pv 0) pe_int set_list)))
        pss_nil)
      (pss_cons (ps_set (i := 2) sc_law_take.nd rfl (Or.inl rfl) (pe_op op_mod (pe_callTy call_int1 (by rfl) z_int (by decide +kernel) (pa_cons (pe_ix ix_list (pv 0) pe_int (fun _ _ => rfl)) pa_nil)) (pv 1)))
      (pss_cons (ps_asg (pe_op op_fdiv (pe_ix ix_list (pv 0) pe_int (fun _ _ => rfl)) (pv 1)) (pg_sub (pv 0) pe_int set_list))
      (pss_one (ps_ret (pv 2)))))), ?_⟩
  obtain ⟨p, acc, k, d⟩ := hC
  have hl := SqL.of (K := K) d.hc
  -- if c[2] < many
  refine ⟨fun σ' H' => ∃ v, σ' = [some (.ref c), some (.int m), v] ∧ Cur H' c a ns ∧ But c H H', ?_, ?_⟩
  · refine ⟨_, rfl, c, _, 2, _, rfl, rfl, hl, rfl, _, rfl, _, _, rfl, rfl, _, rfl, ite2 (fun e => ?_) (fun e => ?_)⟩
    · refine ⟨_, rfl, c, a, ns, rfl, ⟨_, _, _, d⟩, fun H' n b1 cu hn => ?_⟩
      obtain ⟨p', acc', k', d'⟩ := cu
      refine ⟨_, rfl, c, _, 2, 2, rfl, rfl, d'.hc, rfl, ?_⟩
      exact ⟨_, rfl, ⟨_, _, _, d'.put (But.refl c H') d'.hp hn⟩, b1.put⟩
    · exact ⟨_, rfl, ⟨_, _, _, d⟩, But.refl c H⟩
  · rintro σ' H' ⟨v, rfl, ⟨p', acc', k', d'⟩, b'⟩
    have hl' := SqL.of (K := K) d'.hc
    -- digit = int(c[2]) % many
    refine ⟨_, rfl, c, _, 2, _, rfl, rfl, hl', rfl, .inl ⟨_, rfl, _, rfl, _, _, rfl, rfl, hm, ?_⟩⟩
    -- c[2] = c[2] // many
    refine ⟨_, rfl, c, _, 2, _, rfl, rfl, hl', rfl, _, rfl, _, _, rfl, rfl, ⟨hm, hm2⟩, _, rfl, c, _, 2, 2, rfl, rfl, d'.hc, rfl, ?_⟩
    refine ⟨_, rfl, q _ _ b'.put ⟨_, _, _, d'.put (But.refl c H') d'.hp (Int.ediv_nonneg d'.hacc (by omega))⟩ (Int.emod_nonneg _ (by omega)) (Int.emod_lt_of_pos _ hm)⟩
end
end FL

set_option Elab.async false
set_option linter.all false
set_option maxRecDepth 100000
set_option maxHeartbeats 1000000
namespace FL
open PySem PySem.Spec PyProof.Rows L2

/-! ### data that never changes: None, bools, ints, texts, tuples of these -/
mutual
def Rp (K : PySem.W.Frag) (H : Hp) : PyData → V → Prop
  | .none, v => v = .non
  | .bool b, v => v = .bl b
  | .int i, v => v = .int i
  | .str x, v => v = .str x
  | .tuple ds, v => ∃ a xs, v = .ref a ∧ SqT K H a xs ∧ RpAll K H ds xs
  | .list _, _ => False
  | .dict _, _ => False
def RpAll (K : PySem.W.Frag) (H : Hp) : List PyData → List V → Prop
  | [], xs => xs = []
  | d :: ds, xs => ∃ v vs, xs = v :: vs ∧ Rp K H d v ∧ RpAll K H ds vs
end
/-- the tuples stand -/
def Tk (K : PySem.W.Frag) (H H' : Hp) : Prop := ∀ a xs, SqT K H a xs → SqT K H' a xs
theorem Tk.same {K : PySem.W.Frag} {H H' : Hp} (h : Same H H') : Tk K H H' := fun a xs x => by
  rcases x with (x | ⟨o, x⟩) | x
  · exact .inl (.inl (h _ _ x))
  · exact .inl (.inr ⟨o, h _ _ x⟩)
  · exact .inr x
theorem Tk.but {K : PySem.W.Frag} {H H' : Hp} {c : Addr} {l : List V} (h : But c H H') (hc : H c = some (.lst l)) : Tk K H H' := fun a xs x => by
  rcases x with (x | ⟨o, x⟩) | x
  · exact .inl (.inl (h _ _ (fun e => by rw [e, hc] at x; cases x) x))
  · exact .inl (.inr ⟨o, h _ _ (fun e => by rw [e, hc] at x; cases x) x⟩)
  · exact .inr x
theorem Tk.mut {K : PySem.W.Frag} {H : Hp} {c : Addr} {l : List V} {o : HO} (hc : H c = some (.lst l)) : Tk K H (upd H c o) := Tk.but (But.refl c H).put hc
theorem Tk.trans {K : PySem.W.Frag} {H H1 H2 : Hp} (a : Tk K H H1) (b : Tk K H1 H2) : Tk K H H2 := fun x xs h => b x xs (a x xs h)
mutual
theorem Rp.tk {K : PySem.W.Frag} {H H' : Hp} (t : Tk K H H') : ∀ (d : PyData) (v : V), Rp K H d v → Rp K H' d v
  | .none, _, h => h
  | .bool _, _, h => h
  | .int _, _, h => h
  | .str _, _, h => h
  | .tuple ds, v, h => by
    obtain ⟨a, xs, e, s, r⟩ := h
    exact ⟨a, xs, e, t _ _ s, RpAll.tk t ds xs r⟩
  | .list _, _, h => h
  | .dict _, _, h => h
theorem RpAll.tk {K : PySem.W.Frag} {H H' : Hp} (t : Tk K H H') : ∀ (ds : List PyData) (xs : List V), RpAll K H ds xs → RpAll K H' ds xs
  | [], _, h => h
  | d :: ds, xs, h => by
    obtain ⟨v, vs, e, r, rs⟩ := h
    exact ⟨v, vs, e, Rp.tk t d v r, RpAll.tk t ds vs rs⟩
end
theorem RpAll.len {K : PySem.W.Frag} {H : Hp} : ∀ {ds : List PyData} {xs : List V}, RpAll K H ds xs → xs.length = ds.length
  | [], _, h => by rw [show _ = [] from h]; rfl
  | d :: ds, xs, h => by
    obtain ⟨v, vs, rfl, _, rs⟩ := h
    simp [RpAll.len rs]
theorem RpAll.snoc {K : PySem.W.Frag} {H : Hp} {d : PyData} {v : V} (r : Rp K H d v) : ∀ {ds : List PyData} {xs : List V}, RpAll K H ds xs → RpAll K H (ds ++ [d]) (xs ++ [v])
  | [], _, h => by rw [show _ = [] from h]; exact ⟨v, [], rfl, r, rfl⟩
  | e :: ds, xs, h => by
    obtain ⟨u, us, rfl, q, qs⟩ := h
    exact ⟨u, us ++ [v], rfl, q, RpAll.snoc r qs⟩
theorem RpAll.get {K : PySem.W.Frag} {H : Hp} : ∀ {ds : List PyData} {xs : List V} {i : Nat} {d : PyData}, RpAll K H ds xs → ds[i]? = some d → ∃ v, xs[i]? = some v ∧ Rp K H d v
  | [], _, _, _, _, e => by simp at e
  | d :: ds, xs, 0, _, h, e => by
    obtain ⟨v, vs, rfl, r, _⟩ := h
    simp at e; subst e
    exact ⟨v, rfl, r⟩
  | d :: ds, xs, i + 1, _, h, e => by
    obtain ⟨v, vs, rfl, _, rs⟩ := h
    obtain ⟨w, e1, r⟩ := RpAll.get (i := i) rs (by simpa using e)
    exact ⟨w, by simpa using e1, r⟩
mutual
theorem Rp.dp {K : PySem.W.Frag} {H : Hp} : ∀ (d : PyData) (v : V), Rp K H d v → Dp K H v d
  | .none, v, h => by rw [show v = .non from h]; exact .non
  | .bool b, v, h => by rw [show v = .bl b from h]; exact .bl b
  | .int i, v, h => by rw [show v = .int i from h]; exact .int i
  | .str x, v, h => by rw [show v = .str x from h]; exact .str x
  | .tuple ds, v, h => by
    obtain ⟨a, xs, rfl, s, r⟩ := h
    exact .tup s (RpAll.dp ds xs r)
  | .list _, _, h => h.elim
  | .dict _, _, h => h.elim
theorem RpAll.dp {K : PySem.W.Frag} {H : Hp} : ∀ (ds : List PyData) (xs : List V), RpAll K H ds xs → DpAll K H xs ds
  | [], xs, h => by rw [show xs = [] from h]; exact .nil
  | d :: ds, xs, h => by
    obtain ⟨v, vs, rfl, r, rs⟩ := h
    exact .cons (Rp.dp d v r) (RpAll.dp ds vs rs)
end
theorem But.back {c D : Addr} {H H1 : Hp} {o : HO} (b : But c H H1) (hc : H1 c = some o) (n : H1 D = none) : H D = none ∧ D ≠ c := by
  have ne : D ≠ c := fun e => by rw [e, hc] at n; cases n
  refine ⟨?_, ne⟩
  cases q : H D with
  | none => rfl
  | some u => rw [b _ _ ne q] at n; cases n
theorem But.mut {c p : Addr} {H H1 : Hp} {o : HO} (a : But c H H1) (n : H p = none) : But c H (upd H1 p o) := fun x u k h => by
  rw [upd_ne (ne_of_none h n)]; exact a x u k h
theorem CurD.upd {H : Hp} {c a D : Addr} {ns : List Int} {p acc k : Int} {o : HO} (x : CurD H c a ns p acc k) (h1 : D ≠ c) (h2 : D ≠ a) : CurD (upd H D o) c a ns p acc k :=
  ⟨by rw [upd_ne h1.symm]; exact x.hc, by rw [upd_ne h2.symm]; exact x.ha, x.hp, x.hacc⟩
/-- a new object; an object that came new behind it changes -/
theorem Cur.new {H : Hp} {c a D : Addr} {ns : List Int} {o : HO} (x : Cur H c a ns) (n : H D = none) : Cur (upd H D o) c a ns := x.keep fun b u e => by
  rw [upd_ne (ne_of_none e n)]; exact e
theorem Cur.ne {H : Hp} {c a D : Addr} {ns : List Int} (x : Cur H c a ns) (n : H D = none) : D ≠ c ∧ D ≠ a := by
  obtain ⟨p, acc, k, d⟩ := x
  exact ⟨fun e => (by rw [e, d.hc] at n; cases n), fun e => (by rw [e, d.ha] at n; cases n)⟩
theorem Cur.upd {H : Hp} {c a D : Addr} {ns : List Int} {o : HO} (x : Cur H c a ns) (h : D ≠ c ∧ D ≠ a) : Cur (upd H D o) c a ns := by
  obtain ⟨p, acc, k, d⟩ := x
  exact ⟨p, acc, k, d.upd h.1 h.2⟩
theorem Cur.at {H : Hp} {c a : Addr} {ns : List Int} (x : Cur H c a ns) : ∃ l, H c = some (.lst l) := by
  obtain ⟨p, acc, k, d⟩ := x
  exact ⟨_, d.hc⟩
theorem Cur.back {c a D : Addr} {ns : List Int} {H H1 : Hp} (x : Cur H1 c a ns) (b : But c H H1) (n : H1 D = none) : H D = none := by
  obtain ⟨l, h⟩ := x.at
  exact (b.back h n).1
theorem Cur.tk {c a : Addr} {ns : List Int} {K : PySem.W.Frag} {H H1 : Hp} (x : Cur H c a ns) (b : But c H H1) : Tk K H H1 := by
  obtain ⟨l, h⟩ := x.at
  exact Tk.but b h

/-! ### the law's values -/
/-- the letters that the law draws from -/
def lawLetters : List Nat := [97, 98, 99, 32, 120, 121, 122, 65, 66, 90]
mutual
def Good : Nat → PyData → Prop
  | _, .none => True
  | _, .bool _ => True
  | _, .int i => i.natAbs < 10 ^ 41
  | _, .str x => x.cps.size ≤ 6 ∧ ∀ c ∈ x.cps.toList, c ∈ lawLetters
  | n, .tuple ds => ∃ m, n = m + 1 ∧ ds.length ≤ 4 ∧ GoodAll m ds
  | _, .list _ => False
  | _, .dict _ => False
def GoodAll : Nat → List PyData → Prop
  | _, [] => True
  | n, d :: ds => Good n d ∧ GoodAll n ds
end
theorem GoodAll.snoc {n : Nat} {d : PyData} (h : Good n d) : ∀ {ds : List PyData}, GoodAll n ds → GoodAll n (ds ++ [d])
  | [], _ => ⟨h, True.intro⟩
  | _ :: _, q => ⟨q.1, GoodAll.snoc h q.2⟩

theorem none_left {P : Program} {w : World} {K : PySem.W.Frag} {mg : Str → Option Value} {base : Heap} {b : Bool} {f : Addr} {fd : FuncData} {ps : List Str} {sp : Sp} (hl : ∀ vs H Q E, ¬ sp vs H Q E) : FnOk P w K mg base CX0 0 f fd ps sp :=
  ⟨fun vs H Q E h => absurd h (hl vs H Q E), fun A outer s H args us vs Q E _ _ _ _ h => absurd h (hl vs H Q E)⟩
end FL

set_option Elab.async false
set_option linter.all false
set_option maxRecDepth 100000
set_option maxHeartbeats 1000000
/-! ### an own error whose __init__ says super().__init__(text) and stores one field: what the text is, what its making leaves -/
namespace PySem
namespace TeX
open PySem.W PySem.Calls PyProof.Rows PySem.HandSPX
/-- TextError.__init__ in the text -/
abbrev s_te : Stmt := L2.inClass (FL.topS 5) 0
abbrev teFn (doc pm : Value) (an : Option Addr) (cda : Addr) (ct : Value) (cc : Addr) : FuncData := ksFn "__init__" "TextError.__init__" (L2.defArgs s_te) (L2.defBody s_te) (L2.defScope s_te) .none .none doc pm an (.ref cda) ct cc
abbrev teEnv (L fI cda cc : Addr) : Env := ksEnv "TextError.__init__" (L2.defScope s_te) L fI (.ref cda) cc
structure TeTxt (prog : Program) (K : Frag) (mg : Str → Option Value) (C fI : Addr) : Prop where
  gC : mg "TextError" = some (.ref C)
  cls : ∃ nm q N bs bm sn sub ab col dd k0 k1 k2 k3 k5, K.lookup C = some (excClassObj nm q C N bs bm true sn sub ab col dd k0 k1 k2 k3 k5 "ValueError.__new__") ∧ refsVE bm = true
  sa : findIn K (.ref C) "__setattr__" = some (some (.builtin "object.__setattr__"))
  ga : findIn K (.ref C) "__getattribute__" = some (some (.builtin "BaseException.__getattribute__"))
  gg : findIn K (.ref C) "__getattr__" = some none
  noN : findIn K (.ref C) "line" = some none
  iC : findIn K (.ref C) "__init__" = some (some (.ref fI))
  tC : typeIn K (.ref fI) = some (.type "function")
  kC : keepIn K (.ref C) = true
  exC : subIn K (.ref C) (.type "BaseException") = some true
  veC : subIn K (.ref C) (.type "ValueError") = some true
  tyC : typeIn K (.ref C) = some (.type "type")
  hdC : hasDictIn K C = true
  te : exmOne K (.ref C) (.ref C) = some true
  sup : ks_superIn K C C "__init__" = some (some (.builtin "ValueError.__init__"))
  tp : nsIn K cStatics "thirdparty.any" = some none
  noS : nsIn K mainGlobals "super" = some none
  top : (prog.main.scope.names.lookup ("super" : Str)).isSome = false
  fn : ∃ (oc : Value) (od : Option Addr) (doc pm : Value) (an : Option Addr) (cda cc : Addr) (ct : Value) (osl : Array (Option Value)) (ccl cl : Value) (cdd cld : Option Addr) (ccs csl : Array (Option Value)) (vs : Array Value) (file : Str) (tf : Tok),
    K.lookup fI = some ⟨oc, od, .func (teFn doc pm an cda ct cc), osl⟩ ∧ codeIn K (.ref cda) "TextError.__init__" = true ∧
    K.lookup cc = some ⟨cl, cld, .cell (some (.ref C)), csl⟩ ∧ K.lookup cda = some ⟨ccl, cdd, .fields vs, ccs⟩ ∧ vs[2]? = some (.str file tf) ∧ ((prog.main.file : Str) == file) = true
/-- what __init__ leaves of a fresh exception at x -/
structure InitEnd (h h' : Heap) (x C dx : Addr) (v : Value) : Prop where
  keep : ∀ b o, b ≠ x → h.get? b = some o → h'.get? b = some o
  obj : ∃ t1 : Addr, h'.get? x = some { cls := .ref C, dict := some dx, data := .fields #[.ref t1, .none, .none, .none, .bool false, .none] }
  dbig : h.objs.size ≤ dx
  dne : dx ≠ x
  ns : h'.Ns1 dx (fun y => if y = "line" then some v else none)
section
variable {prog : Program} {w : World} {A : Around} {E : Value → Shared → Prop} {R : Result → Shared → Prop} {s : Shared} {K : Frag} {mg mb : Str → Option Value} {C fI : Addr}
/-- the bound ValueError.__init__ called -/
theorem bound_call {u e t0 : Addr} {us : List Value} {Q : Value → Shared → Prop} {nm q : Str} {N : Addr} {bs bm : List Value} {hdct : Bool} {sn : List Str} {sub : List Value} {ab : Bool} {col : Option Bool} {dd : Option Addr} {k0 k1 k2 k3 k5 : Option Value}
    (hC : s.heap.get? C = some (excClassObj nm q C N bs bm hdct sn sub ab col dd k0 k1 k2 k3 k5 "ValueError.__new__")) (he : s.heap.get? e = some (excO C t0)) (hu : s.heap.get? u = some (kxs_mw "ValueError.__init__" e)) (hz : us.length ≤ sizeLine)
    (hq : ∀ h' t1, (∀ b o, b ≠ e → s.heap.get? b = some o → h'.get? b = some o) → h'.get? e = some (excO C t1) → Q .none { s with heap := h' }) : wpAny (model prog w) A (call (.ref u) us) Q E s := by
  obtain ⟨hp, g, d, tk, os⟩ := s
  refine wpAny_call (codeAny_of_tree (show wpAny _ A.in1 (callAny (.ref u) ⟨us, []⟩) _ _ _ from ?_))
  simp only [callAny]; refine wpAny_bind (wpAny_load hu ?_)
  have e1 : (Value.type "method-wrapper" == Value.type "method" || Value.type "method-wrapper" == Value.type "builtin_function_or_method" || Value.type "method-wrapper" == Value.type "method-wrapper") = true := by decide
  simp only [kxs_mw, e1, if_true]; refine KFB.if_so (by decide) (wpAny_bind (check_bound_init F.excBase_ValueError.toExcCallFacts hC he rfl (wpAny_bind (wpAny_pure (wpAny_pure ?_)))))
  refine ⟨plainId_quiet F.excBase_ValueError.init.plain _, codeAny_builtin F.excBase_ValueError.initEntry ?_⟩
  exact exc_init_tree (cls := .ref C) (t0 := t0) (dv := none) (c2 := .none) (c3 := .none) (b4 := .bool false) he hz fun h' k e' _ => hq h' _ k e'
theorem te_init (T : TeTxt prog K mg C fI) {x t0 : Addr} {v : Value} (X : K.In s.heap) (G : s.heap.Ns mainGlobals mg) (B : s.heap.Ns builtinsNs mb) (hb : ∀ x : Str, x ≠ "__name__" → mb x = bootBuiltins x) (hlim : s.heap.NoLimit)
    (hx : s.heap.get? x = some (excO C t0)) (hnx : K.lookup x = none) (hroom : A.depth < recursionLimit)
    (hq : ∀ h' tk dx, InitEnd s.heap h' x C dx v → R (.ok (.ret .none)) { s with heap := h', toks := tk }) :
    codeAny (model prog w) A (.call (.ref fI) ⟨[.ref x, v], []⟩) R s := by
  obtain ⟨oc, od, doc, pm, an, cda, cc, ct, osl, ccl, cl, cdd, cld, ccs, csl, vs, file, tf, ho, hcd, hcell, hcode, hvs, hfile⟩ := T.fn
  obtain ⟨nm, q, N, bs, bm, sn, sub, ab, col, dd, k0, k1, k2, k3, k5, hC, hbm⟩ := T.cls
  have hcl : clsIn K C = some { name := nm, bases := bs, mro := .ref C :: bm, ns := N, qualname := q, hasDict := true, slotNames := sn, subclasses := sub, abstract := ab, collection := col, hasDel := false } := by unfold clsIn; rw [hC] <;> rfl
  have hmro : mroIn K C (.ref C) = some true := by unfold mroIn; rw [hcl]; simp
  have hsup : alongIn K "__init__" bm = some (some (.builtin "ValueError.__init__")) := by
    have e := T.sup
    unfold ks_superIn at e
    rw [hcl] at e
    simpa [List.dropWhile_cons] using e
  refine ks_codeAny_call_defAt (fd := teFn doc pm an cda ct cc) (body := L2.defBody s_te) (binds := [("self", .ref x), ("line", v)]) hroom (X _ _ ho) rfl hlim (codeRec_of X hcd) rfl
    (BindsTo.of_eq (by first | rfl | with_unfolding_all rfl)) (show ∀ x ∈ (L2.defScope s_te).names, x.2 ≠ NameKind.cell by decide +kernel) (by
      intro y hy; simp only [List.mem_cons, List.not_mem_nil, or_false] at hy
      rcases hy with rfl | rfl
      · exact (show (L2.defScope s_te).names.lookup ("self" : Str) = some NameKind.local by decide +kernel)
      · exact (show (L2.defScope s_te).names.lookup ("line" : Str) = some NameKind.local by decide +kernel)) (fun h₁ hns hk₁ => ?_) rfl rfl rfl
  show _root_.PySem.wpAt (model prog w) (A.deeper (teEnv s.heap.objs.size fI cda cc)) (.func (L2.defBody s_te) (teEnv s.heap.objs.size fI cda cc)) (execs (L2.defBody s_te) (teEnv s.heap.objs.size fI cda cc)) _ _ _
  have X₁ : K.In h₁ := X.keeps hk₁
  have hx₁ := hk₁ _ _ hx
  have hnxC : x ≠ C := fun e => by rw [e, hC] at hnx; cases hnx
  -- super().__init__(text)
  refine ks_wpAt_execs_cons (ks_wpAt_Expr_any (ks_wpAt_MethodCall ?_))
  refine ks_wpAt_super_base (fd := teFn doc pm an cda ct cc) (f := fI) (cc := cda) (vs := vs) (file := file) (tf := tf)
    rfl rfl (by decide) rfl (X₁ _ _ ho) rfl rfl rfl (X₁ _ _ hcode) rfl hvs hfile T.top ?_
  refine ks_loadName_global rfl rfl (loadGlobal_builtin (G.keeps hk₁) (mg_none_of X G T.noS) (B.keeps hk₁) ((hb _ (by decide +kernel)).trans (by decide +kernel : bootBuiltins "super" = some (.type "super"))) ⟨rfl, ?_⟩)
  refine wpAny_loadName_free (c := cc) rfl rfl rfl ⟨_, X₁ _ _ hcell, rfl⟩ ?_
  refine wpAny_loadName_local (v := .ref x) rfl rfl hns (by first | rfl | with_unfolding_all rfl) ?_
  refine ks_wpAny_isType_cls (X₁ _ _ hC) rfl ⟨rfl, ?_⟩
  obtain ⟨hp, g, d, tk, os⟩ := s
  refine ks_wpAny_call_super (X₁ _ _ hC) rfl hx₁ rfl (fun c e => by cases e) (looks_mroIn X₁ hmro) (fun h₂ hso k₂ => ?_)
  have X₂ : K.In h₂ := X₁.keeps k₂
  have hx₂ := k₂ _ _ hx₁
  have I₂ : InstAt h₂ x (excO C t0) C none := ⟨hx₂, rfl, rfl, trivial⟩
  refine kxs_getMethod kxs_ValueError hso (looks_opaque X₂ T.tp) (l₀ := .ref C :: bm) (fun A Q E s k q => wpAny_bind ((looks_clsIn X₂ hcl) A _ E s k (wpAny_pure q))) (by simp [List.dropWhile_cons]) X₂ hsup (I₂.type.andThen (looks_subIn X₂ T.veC)) hnxC (by decide) ?_
  refine kxs_callWith (i := "ValueError.__init__") (x := x) (by rfl) (evalArgs_plain (Calls.spliced_cons ?_))
  rw [if_neg Bool.false_ne_true]
  refine Calls.Constant_str (Calls.spliced_nil ⟨?_, ?_⟩)
  · exact Heap.get?_push_at rfl rfl
  have kp : ∀ b o, h₂.get? b = some o → (h₂.push (kxs_mw "ValueError.__init__" x)).get? b = some o := fun b o e => Heap.get?_push_of_some _ e
  refine bound_call (kp _ _ (X₂ _ _ hC)) (kp _ _ hx₂) (Heap.get?_push_at rfl rfl) (by show 1 ≤ sizeLine; decide) (fun h₃ t1 k₃ hx₃ => ?_)
  have k₀₃ : ∀ b o, b ≠ x → hp.get? b = some o → h₃.get? b = some o := fun b o e z => k₃ b o e (kp b o (k₂ b o (hk₁ b o z)))
  have X₃ : K.In h₃ := fun a o e => k₀₃ a o (fun z => by rw [z, hnx] at e; cases e) (X a o e)
  have ns₃ : h₃.Ns hp.objs.size (fun y => ([("self", Value.ref x), ("line", v)] : List (Str × Value)).reverse.lookup y) := by
    obtain ⟨o, es, ep, e1, e2⟩ := hns
    exact ⟨o, es, ep, k₃ _ _ (fun z => absurd (Heap.lt_size hx) (by rw [← z]; exact Nat.lt_irrefl _)) (kp _ _ (k₂ _ _ e1)), e2⟩
  -- self.line = line
  refine wpAt_of_wpAny (wpAny_execs_cons (plainObj_wpAny_Assign_Attribute ?_))
  refine wpAny_Name (wpAny_loadName_local (v := v) rfl rfl ns₃ (by first | rfl | with_unfolding_all rfl) ?_) (by decide +kernel)
  refine wpAny_Name (wpAny_loadName_local (v := .ref x) rfl rfl ns₃ (by first | rfl | with_unfolding_all rfl) ?_) (by decide +kernel)
  refine set_plain X₃ (ox := excO C t1) (od := none) ⟨hx₃, rfl, rfl, trivial⟩ T.sa ?_
  refine exc_osa X₃ hx₃ hcl (show refsVE (.ref C :: bm) = true from hbm) rfl T.noN (fun h₄ tk₄ dx k₄ dn dne hx₄ hn₄ => ?_)
  have z : hp.objs.size < h₃.objs.size := ns₃.lt
  exact wpAny_execs_nil (hq h₄ tk₄ dx ⟨fun b o hb e => k₄ b o hb (k₀₃ b o hb e), ⟨t1, hx₄⟩, Nat.le_of_lt (Nat.lt_of_lt_of_le z dn), dne, hn₄⟩)
/-- what a made error leaves -/
structure TeMade (h h' : Heap) (e C d : Addr) (v : Value) : Prop where
  keep : ∀ b o, h.get? b = some o → h'.get? b = some o
  new : h.objs.size ≤ e
  obj : ∃ oe vs, h'.get? e = some oe ∧ oe.cls = .ref C ∧ oe.dict = some d ∧ oe.data = .fields vs ∧ vs[1]? = some .none
  dbig : h.objs.size ≤ d
  dne : d ≠ e
  ns : h'.Ns1 d (fun y => if y = "line" then some v else none)
theorem te_made (T : TeTxt prog K mg C fI) {v : Value} (X : K.In s.heap) (G : s.heap.Ns mainGlobals mg) (B : s.heap.Ns builtinsNs mb) (hb : ∀ x : Str, x ≠ "__name__" → mb x = bootBuiltins x) (hlim : s.heap.NoLimit) (hroom : A.depth + 1 < recursionLimit)
    (hq : ∀ h' tk e d, TeMade s.heap h' e C d v → R (.ok (.ret (.ref e))) { s with heap := h', toks := tk }) :
    codeAny (model prog w) A (.call (.ref C) ⟨[v], []⟩) R s := by
  obtain ⟨nm, q, N, bs, bm, sn, sub, ab, col, dd, k0, k1, k2, k3, k5, hC, hbm⟩ := T.cls
  obtain ⟨hp, g, dr, tk, os⟩ := s
  have k : ∀ b o, hp.get? b = some o → ((hp.push (kdv_tup [v])).push (excO C hp.objs.size)).get? b = some o := fun b o e => Heap.get?_push_of_some _ (Heap.get?_push_of_some _ e)
  have hget : ((hp.push (kdv_tup [v])).push (excO C hp.objs.size)).get? (hp.objs.size + 1) = some (excO C hp.objs.size) := by heap_get
  have hnx : K.lookup (hp.objs.size + 1) = none := by
    cases e : K.lookup (hp.objs.size + 1) with
    | none => rfl
    | some o =>
      have z : hp.get? (hp.objs.size + 1) = some o := X _ _ e
      exact absurd (Nat.lt_of_succ_lt (Heap.lt_size z)) (Nat.lt_irrefl _)
  refine call_own F.excBase_ValueError (fun X => refsVE_contains X bm hbm) (X _ _ hC) (looks_findIn X T.iC) (fun self => bind_fn X self T.tC) (by show 1 ≤ sizeLine; decide) ?_
  refine te_init (s := ⟨(hp.push (kdv_tup [v])).push (excO C hp.objs.size), g, dr, tk, os⟩) T (X.keeps k) (G.keeps k) (B.keeps k) hb (hlim.keeps k) hget hnx ?_ fun h' tk' dx ⟨k', hx, dn, dne, hns⟩ => ?_
  · show A.depth + 1 < recursionLimit
    exact hroom
  · have old : ∀ b o, hp.get? b = some o → h'.get? b = some o := fun b o e => k' b o (Nat.ne_of_lt (Nat.lt_succ_of_lt (Heap.lt_size e))) (k b o e)
    have z : hp.objs.size + 1 + 1 ≤ dx := by
      have q := dn
      rw [Heap.size_push, Heap.size_push] at q
      exact q
    obtain ⟨t1, hx⟩ := hx
    exact ⟨rfl, hq h' tk' (hp.objs.size + 1) dx ⟨old, Nat.le_succ _, ⟨_, _, hx, rfl, rfl, rfl, rfl⟩, Nat.le_trans (Nat.le_trans (Nat.le_succ _) (Nat.le_succ _)) z, dne, hns⟩⟩
end
end TeX
end PySem
namespace L2
open PySem PySem.Spec PyProof.Rows
theorem relO_te {v : V} {v' : Value} (r : RelV v v') (f : Str) : RelO (List.lookup f [(("line" : Str), v)]) (if f = "line" then some v' else none) := by
  by_cases hw : f = "line"
  · subst hw
    rw [if_pos rfl]
    have q : List.lookup ("line" : Str) [(("line" : Str), v)] = some v := by simp [List.lookup]
    rw [q]
    exact r
  · rw [if_neg hw]
    have qw : (f == ("line" : Str)) = false := by simpa using hw
    have q2 : List.lookup f [(("line" : Str), v)] = none := by simp [List.lookup, qw]
    rw [q2]
    trivial
section
variable {X : Cx} {C fI : Addr}
/-- TextError(e) -/
def tMkTe (C : Addr) (ta : TA) : St → Hp → XK → Prop := fun σ H Q => ta σ H fun vs H1 => ∃ v, vs = [v] ∧ ∀ d, H1 d = none → Q (.ref C) (some d) (upd H1 d (.xd [(("line" : Str), v)]))
theorem pmk_te {a : Expr} {ta : TA} {p pos : Pos} {k : Nat} (T : PySem.TeX.TeTxt X.prog X.K X.mg C fI) (hr : Room k X.A) (ha : PA X [a] ta) (hg : Gl X "TextError" := by rfl)
    (he : starEach (a :: []) X.env = (false, eval a X.env) :: starEach [] X.env := by rfl) (hpl : (backTo pos (starEach [] X.env)).any (·.1) = false := by rfl) :
    PMk X (.Call (.Name "TextError" p) [a] [] pos) (tMkTe C ta) := by
  intro pins s σ H Q I h
  refine wpAny_Call_Name_kw (ld_glob I hg T.gC ?_)
  refine PySem.W.callWith_K (h₀ := X.base) I.ok.mod.kin T.kC (thn (ha.run pos pins s σ H _ I h) fun us s1 hh => ?_) he hpl
  obtain ⟨vs, H1, I1, r1, v, ev, q1⟩ := hh
  subst ev
  refine ⟨I1.kIn, ?_⟩
  cases r1 with
  | cons rv rn =>
    rename_i v' us'
    cases rn
    show wpAny _ _ (call (.ref C) [v']) _ _ _
    have hlim := I1.nolimit
    have hglob := I1.mod.glob.keeps I1.bk
    obtain ⟨mb, hb1, hbt⟩ := I1.mod.blt
    have hblt := hb1.keeps I1.bk
    obtain ⟨hp, g, dr, tk, os⟩ := s1
    refine wpAny_call (PySem.TeX.te_made T I1.kIn hglob hblt hbt hlim (by have := hr.dp; omega) fun h' tk' e d M => ?_)
    show MkP X pins σ Q (.ref e) ⟨h', g, dr, tk', os⟩
    obtain ⟨oe, fv, hoe, hc, hd, hdat, h1⟩ := M.obj
    have hns := M.ns
    obtain ⟨G', g1, g2⟩ := restrict h' fun b => decide (b ≠ e)
    have gk : ∀ b, b ≠ e → G'.get? b = h'.get? b := fun b hb => g1 b (decide_eq_true hb)
    have ge : G'.get? e = none := g2 e (by simp)
    have old : ∀ b o, hp.get? b = some o → G'.get? b = some o := fun b o q => (gk b (Nat.ne_of_lt (Nat.lt_of_lt_of_le (Heap.lt_size q) M.new))).trans (M.keep b o q)
    have ob : ObjOk X.prog X.w (upd H1 d (.xd [(("line" : Str), v)])) G' d (.xd [(("line" : Str), v)]) :=
      ⟨_, hns.at (fun o q => (gk d M.dne).trans q), fun f => relO_te rv f⟩
    have J : Inv X pins σ (upd H1 d (.xd [(("line" : Str), v)])) ⟨G', g, dr, tk', os⟩ := I1.laid (t' := tk') old M.dbig ob
    refine ⟨e, oe, fv, ⟨G', g, dr, tk', os⟩, _, .ref C, some d, rfl, J, fun b o q => ?_, ge, hoe, ⟨hc, hd⟩, hdat, h1, ?_, rfl, I1.bare, raises_own T.exC T.tyC, q1 d (I1.hok.fresh M.dbig)⟩
    · by_cases hb : b = e
      · have q' : G'.get? b = some o := q
        rw [hb, ge] at q'; cases q'
      · exact (gk b hb).symm.trans q
    · rw [upd_ne (Ne.symm M.dne)]
      exact I1.hok.fresh M.new
/-- raise TextError(e) -/
def tRaiseTe (C : Addr) (W : WX) (ta : TA) : TS := fun _ σ H => tMkTe C ta σ H fun cls d H' => W cls d σ H'
theorem ps_raiseTe {a : Expr} {ta : TA} {W : WX} {p pos pos2 : Pos} {k : Nat} (hc : X.calm = true) (T : PySem.TeX.TeTxt X.prog X.K X.mg C fI) (hr : Room k X.A) (tk : Takes X W) (ha : PA X [a] ta) (hg : Gl X "TextError" := by rfl)
    (he : starEach (a :: []) X.env = (false, eval a X.env) :: starEach [] X.env := by rfl) (hpl : (backTo pos (starEach [] X.env)).any (·.1) = false := by rfl) :
    PS X (.Raise (some (.Call (.Name "TextError" p) [a] [] pos)) none pos2) (tRaiseTe C W ta) := ps_raise hc tk (pmk_te T hr ha hg he hpl)
/-- e.line, e the exception that the suite holds (at a; its class cls, its dict d) -/
def tLine (C : Addr) (a : Addr) (cls : Value) (d : Option Addr) (te : TE) : TE := fun σ H Q => te σ H fun x H1 => x = .ref a ∧ cls = .ref C ∧ ∃ (dd : Addr) (v : V), d = some dd ∧ H1 dd = some (.xd [(("line" : Str), v)]) ∧ Q v H1
theorem pe_line {a : Addr} {oe : Obj} {cls : Value} {d : Option Addr} {pn : List (Addr × Obj)} {e : Expr} {te : TE} {pos : Pos} (T : PySem.TeX.TeTxt X.prog X.K X.mg C fI) (hz : Zc cls d oe) (hf : ∃ vs, oe.data = .fields vs) (he : PE (X.suite a ((a, oe) :: pn)) e te)
    (hb : attributeBase e "line" X.env (eval e X.env) = eval e X.env := by rfl) :
    PE (X.suite a ((a, oe) :: pn)) (.Attribute e "line" pos) (tLine C a cls d te) := by
  refine ⟨fun pins s σ H Q I h => ?_⟩
  refine attr_of hb (thn (he.run pins s σ H _ I h) fun u s1 hh => ?_)
  obtain ⟨x, H1, I1, rx, ex, ec, dd, v, ed, ea, q⟩ := hh
  subst ex
  obtain rfl : u = Value.ref a := rx
  subst ec
  subst ed
  obtain ⟨ha, _⟩ := I1.pin (a, oe) (List.mem_append_left _ List.mem_cons_self)
  obtain ⟨vs, hd⟩ := hf
  have hx : ObjOk X.prog X.w H1 s1.heap dd (.xd [(("line" : Str), v)]) := I1.hok dd _ ea
  obtain ⟨mA, hns, hr⟩ := hx
  obtain ⟨od, ho, hl⟩ := lookIn_ns hns
  have l : List.lookup ("line" : Str) [(("line" : Str), v)] = some v := by simp [List.lookup]
  obtain ⟨u, hu, ru⟩ := RelO.some_of (v := v) (o := mA "line") (by rw [← l]; exact hr "line")
  have J : PySem.W.InstAt s1.heap a oe C (some od) := ⟨ha, hz.1, by unfold PySem.W.notCls; rw [hd] <;> rfl, by rw [hz.2]; exact ho⟩
  exact HandSPX.exc_get I1.kIn J T.ga T.gg T.exC (PySem.W.findObj_own T.hdC T.noN rfl (by rw [hl, hu])) (handed_of ru) ⟨v, H1, I1.tok _, ru, q⟩
end
end L2

set_option Elab.async false
set_option linter.all false
set_option maxRecDepth 10000
set_option maxHeartbeats 1000000
/-! ### the plain law: what is written, what is read, over lists of codes -/
namespace FL
open PySem PySem.NumText

/-! #### integers -/
def dg (n : Nat) : List Nat := (Nat.toDigits 10 n).map Char.toNat
def ic (i : Int) : List Nat := if i < 0 then 45 :: dg i.natAbs else dg i.natAbs
def isDig (c : Nat) : Bool := decide (48 ≤ c) && decide (c ≤ 57)
theorem isDig_iff {c : Nat} : isDig c = true ↔ 48 ≤ c ∧ c ≤ 57 := by simp [isDig]
theorem all_digits {t : List Nat} : t.all isDig = true ↔ AllDigits t := by
  rw [List.all_eq_true]
  exact ⟨fun h c hc => isDig_iff.mp (h c hc), fun h c hc => isDig_iff.mpr (h c hc)⟩
theorem dg_digits (n : Nat) : AllDigits (dg n) := by
  intro c hc
  obtain ⟨ch, hch, e⟩ := List.mem_map.mp hc
  rw [← e]
  exact PyProof.Rows.digit_range (Nat.isDigit_of_mem_toDigits (by decide) (by decide) hch)
theorem dg_val (n : Nat) : digitsVal (dg n) = n := PySem.W.KIN.val_back n
theorem dg_ne (n : Nat) : dg n ≠ [] := by
  intro e
  have h := PySem.toDigits_len_ge 10 n
  rw [List.map_eq_nil_iff.mp e] at h
  exact absurd h (by decide)
theorem dg_len {n k : Nat} (hk : 1 ≤ k) (h : n < 10 ^ k) : (dg n).length ≤ k := by
  unfold dg
  rw [List.length_map]
  exact PySem.toDigits_len_pow (by decide) hk h
/-- a digit list without a leading nought is the text of its value -/
theorem dg_back {t : List Nat} (h : AllDigits t) (h0 : t ≠ []) (h1 : t.length = 1 ∨ t.head? ≠ some 48) : dg (digitsVal t) = t := by
  cases t with
  | nil => exact absurd rfl h0
  | cons c r =>
    have e := toDigits_digitsVal r.length (c :: r) rfl h (by
      rcases h1 with h1 | h1
      · left
        simpa using h1
      · right
        refine ⟨c, r, rfl, ?_⟩
        have := h.head
        have : c ≠ 48 := fun z => h1 (by rw [z]; rfl)
        omega)
    unfold dg
    rw [e, List.map_map]
    have : ∀ l : List Nat, AllDigits l → l.map (Char.toNat ∘ Char.ofNat) = l := by
      intro l
      induction l with
      | nil => intro _; rfl
      | cons a l ih =>
        intro hl
        have ha := hl.head
        rw [List.map_cons, ih hl.tail]
        congr 1
        show (Char.ofNat a).toNat = a
        have : a.isValidChar := Or.inl (by omega)
        simp [Char.ofNat, this, Char.toNat, Char.ofNatAux]
    exact this _ h
theorem digitsVal_lt : ∀ (t : List Nat), AllDigits t → digitsVal t < 10 ^ t.length := by
  intro t
  have key : ∀ (t : List Nat) (a k : Nat), AllDigits t → a < 10 ^ k → t.foldl (fun acc c => acc * 10 + (c - 48)) a < 10 ^ (k + t.length) := by
    intro t
    induction t with
    | nil => intro a k _ h; simpa using h
    | cons c r ih =>
      intro a k h ha
      have hc := h.head
      have : a * 10 + (c - 48) < 10 ^ (k + 1) := by
        rw [Nat.pow_succ]
        omega
      have := ih _ (k + 1) h.tail this
      rw [List.length_cons, show k + (r.length + 1) = k + 1 + r.length by omega]
      exact this
  intro h
  have := key t 0 0 h (by decide)
  rw [Nat.zero_add] at this
  exact this
/-- the text of a positive number has no leading nought -/
theorem dg_head {n : Nat} (h : 0 < n) : (dg n).head? ≠ some 48 := by
  intro e
  cases q : dg n with
  | nil => exact dg_ne n q
  | cons c r =>
    rw [q] at e
    have hc : c = 48 := by simpa using e
    subst hc
    have hv := dg_val n
    rw [q, digitsVal_zero] at hv
    have hd : AllDigits r := by
      have := dg_digits n
      rw [q] at this
      exact this.tail
    have lt := digitsVal_lt r hd
    rw [hv] at lt
    by_cases hr : r = []
    · subst hr
      simp at lt
      omega
    · have : (dg n).length ≤ r.length := dg_len (by cases r with | nil => exact absurd rfl hr | cons _ _ => simp) lt
      rw [q, List.length_cons] at this
      omega
theorem str_nat (n : Nat) : (PySem.Str.ofString (toString ((n : Nat) : Int))) = S (dg n) := by
  rw [← S_of (PySem.Str.ofString _), PySem.W.KIN.signs_num]
  rfl
theorem str_int (i : Int) : (PySem.Str.ofString (toString i)) = S (ic i) := by
  unfold ic
  by_cases h : i < 0
  · rw [if_pos h]
    cases i with
    | ofNat m => exact absurd h (by simp)
    | negSucc m =>
      rw [← S_of (PySem.Str.ofString _)]
      congr 1
      show _ = 45 :: dg (m + 1)
      rw [PyProof.Rows.signs_ofString]
      show (("-" : String) ++ Nat.repr (m + 1)).toList.map Char.toNat = _
      rw [String.toList_append, List.map_append, Nat.toList_repr]
      rfl
  · rw [if_neg h]
    obtain ⟨m, rfl⟩ := Int.eq_ofNat_of_zero_le (Int.not_lt.mp h)
    exact str_nat m

/-! #### words, claims -/
def isSep (c : Nat) : Bool := c == 32 || c == 40 || c == 41 || c == 34
def isLet (c : Nat) : Bool := decide (97 ≤ c ∧ c ≤ 122) || decide (65 ≤ c ∧ c ≤ 90) || c == 32
/-- read_natural, read_integer, read_word -/
def rNat (t : List Nat) : Option Nat := if t = [] ∨ (1 < t.length ∧ t.head? = some 48) ∨ ¬ t.all isDig = true then none else some (digitsVal t)
def rInt (t : List Nat) : Option Int :=
  if t.head? = some 45 then (match rNat t.tail with | some n => if n = 0 then none else some (-(n : Int)) | none => none)
  else (match rNat t with | some n => some (n : Int) | none => none)
def rWord (t : List Nat) : Option PyData :=
  if t = [45] then some .none else if t = [84] then some (.bool true) else if t = [70] then some (.bool false) else (rInt t).map .int
mutual
def wr : PyData → List Nat
  | .none => [45]
  | .bool b => if b then [84] else [70]
  | .int i => ic i
  | .str x => 34 :: x.cps.toList ++ [34]
  | .tuple ds => 40 :: jn [32] (wrs ds) ++ [41]
  | .list _ => []
  | .dict _ => []
def wrs : List PyData → List (List Nat)
  | [] => []
  | d :: ds => wr d :: wrs ds
end
theorem wrs_map : ∀ ds : List PyData, wrs ds = ds.map wr
  | [] => rfl
  | d :: ds => by rw [wrs, wrs_map ds]; rfl
theorem rNat_dg (n : Nat) : rNat (dg n) = some n := by
  unfold rNat
  rw [if_neg, dg_val]
  rintro (h | ⟨h1, h2⟩ | h)
  · exact dg_ne n h
  · by_cases h0 : 0 < n
    · exact dg_head h0 h2
    · have : n = 0 := by omega
      subst this
      exact absurd h1 (by decide)
  · exact h (all_digits.mpr (dg_digits n))
theorem rInt_ic (i : Int) : rInt (ic i) = some i := by
  unfold rInt ic
  by_cases h : i < 0
  · rw [if_pos h, if_pos (show (45 :: dg i.natAbs).head? = some 45 from rfl), List.tail_cons, rNat_dg]
    show (if i.natAbs = 0 then none else some (-(i.natAbs : Int))) = some i
    rw [if_neg (by omega)]
    congr 1
    omega
  · rw [if_neg h, if_neg, rNat_dg]
    · show some (i.natAbs : Int) = some i
      congr 1
      omega
    · intro e
      cases q : dg i.natAbs with
      | nil => exact dg_ne _ q
      | cons c r =>
        rw [q] at e
        have hc : c = 45 := by simpa using e
        have := dg_digits i.natAbs c (by rw [q]; exact List.mem_cons_self ..)
        omega
/-- the text of an int is a word: no separator, not one of the three signs -/
theorem ic_signs (i : Int) : ∀ c ∈ ic i, c = 45 ∨ (48 ≤ c ∧ c ≤ 57) := by
  intro c hc
  unfold ic at hc
  split at hc
  · rcases List.mem_cons.mp hc with h | h
    · exact .inl h
    · exact .inr (dg_digits _ c h)
  · exact .inr (dg_digits _ c hc)
theorem ic_ne (i : Int) : ic i ≠ [] ∧ ic i ≠ [45] ∧ ic i ≠ [84] ∧ ic i ≠ [70] := by
  refine ⟨?_, ?_, ?_, ?_⟩
  · unfold ic
    split
    · exact List.cons_ne_nil _ _
    · exact dg_ne _
  · unfold ic
    split
    · intro e
      injection e with _ e
      exact dg_ne _ e
    · intro e
      have := dg_digits i.natAbs 45 (by rw [e]; exact List.mem_cons_self ..)
      omega
  · intro e
    have := ic_signs i 84 (by rw [e]; exact List.mem_cons_self ..)
    omega
  · intro e
    have := ic_signs i 70 (by rw [e]; exact List.mem_cons_self ..)
    omega
theorem rWord_ic (i : Int) : rWord (ic i) = some (.int i) := by
  obtain ⟨_, h1, h2, h3⟩ := ic_ne i
  unfold rWord
  rw [if_neg h1, if_neg h2, if_neg h3, rInt_ic]
  rfl
/-- what a read int's text is -/
theorem ic_back {t : List Nat} {i : Int} (h : rInt t = some i) : ic i = t := by
  have nat : ∀ {t : List Nat} {n : Nat}, rNat t = some n → dg n = t := by
    intro t n h
    unfold rNat at h
    split at h
    · cases h
    · rename_i hc
      have e : digitsVal t = n := Option.some.inj h
      rw [← e]
      refine dg_back (all_digits.mp ?_) (fun z => hc (.inl z)) ?_
      · cases q : t.all isDig with
        | true => rfl
        | false => exact absurd (.inr (.inr (by simp [q]))) hc
      · by_cases h1 : t.length = 1
        · exact .inl h1
        · refine .inr fun z => hc (.inr (.inl ⟨?_, z⟩))
          have : t ≠ [] := fun z => hc (.inl z)
          have : 0 < t.length := List.length_pos_iff.mpr this
          omega
  unfold rInt at h
  split at h
  · rename_i h0
    cases q : rNat t.tail with
    | none => rw [q] at h; cases h
    | some n =>
      rw [q] at h
      simp only at h
      split at h
      · cases h
      · rename_i hn
        have e : -(n : Int) = i := Option.some.inj h
        subst e
        unfold ic
        rw [if_pos (by omega), Int.natAbs_neg, Int.natAbs_natCast, nat q]
        cases t with
        | nil => simp at h0
        | cons c r =>
          have : c = 45 := by simpa using h0
          subst this
          rfl
  · cases q : rNat t with
    | none => rw [q] at h; cases h
    | some n =>
      rw [q] at h
      have e : (n : Int) = i := Option.some.inj h
      subst e
      unfold ic
      rw [if_neg (by omega), Int.natAbs_natCast, nat q]

/-! #### the reader: the levels (the inmost first), the rest of the text -/
def push (L : List (List PyData)) (d : PyData) : List (List PyData) := match L with
  | top :: ls => (top ++ [d]) :: ls
  | [] => []
/-- one turn -/
inductive Turn where
  | fail | go (L : List (List PyData)) (t : List Nat)
def turn (L : List (List PyData)) (c : Nat) (r : List Nat) : Turn :=
  if c = 40 then .go ([] :: L) r
  else if c = 41 then (match L with | top :: nx :: ls => .go (push (nx :: ls) (.tuple top)) r | _ => .fail)
  else if c = 32 then .go L r
  else if c = 34 then (match r.dropWhile isLet with | 34 :: r' => .go (push L (.str (S (r.takeWhile isLet)))) r' | _ => .fail)
  else (match rWord ((c :: r).takeWhile fun x => !isSep x) with | some d => .go (push L d) ((c :: r).dropWhile fun x => !isSep x) | none => .fail)
def rd : Nat → List (List PyData) → List Nat → Option (List (List PyData))
  | _, L, [] => some L
  | 0, _, _ :: _ => none
  | n + 1, L, c :: r => match turn L c r with | .fail => none | .go L' t => rd n L' t
theorem rd_turn (n : Nat) (L : List (List PyData)) (c : Nat) (r : List Nat) : rd (n + 1) L (c :: r) = (match turn L c r with | .fail => none | .go L' t => rd n L' t) := rfl
theorem dropWhile_len {p : Nat → Bool} : ∀ l : List Nat, (l.dropWhile p).length ≤ l.length
  | [] => Nat.le_refl _
  | c :: r => by
    rw [List.dropWhile_cons]
    split
    · exact Nat.le_trans (dropWhile_len r) (Nat.le_succ _)
    · exact Nat.le_refl _
theorem turn_len {L L' : List (List PyData)} {c : Nat} {r t : List Nat} (h : turn L c r = .go L' t) : t.length ≤ r.length := by
  unfold turn at h
  by_cases h1 : c = 40
  · rw [if_pos h1] at h
    injection h with _ h
    rw [← h]; exact Nat.le_refl _
  rw [if_neg h1] at h
  by_cases h2 : c = 41
  · rw [if_pos h2] at h
    match L, h with
    | _ :: _ :: _, h =>
      injection h with _ h
      rw [← h]; exact Nat.le_refl _
  rw [if_neg h2] at h
  by_cases h3 : c = 32
  · rw [if_pos h3] at h
    injection h with _ h
    rw [← h]; exact Nat.le_refl _
  rw [if_neg h3] at h
  by_cases h4 : c = 34
  · rw [if_pos h4] at h
    split at h
    · rename_i r' e
      injection h with _ h
      have := dropWhile_len (p := isLet) r
      rw [e, List.length_cons] at this
      rw [← h]; omega
    · cases h
  rw [if_neg h4] at h
  split at h
  · injection h with _ h
    have e : isSep c = false := by
      unfold isSep
      simp [h1, h2, h3, h4]
    rw [List.dropWhile_cons, if_pos (by rw [e]; rfl)] at h
    rw [← h]
    exact dropWhile_len r
  · cases h
theorem rd_fuel : ∀ (n m : Nat) (L : List (List PyData)) (t : List Nat), t.length ≤ n → t.length ≤ m → rd n L t = rd m L t
  | n, m, L, [], _, _ => by rw [rd, rd]
  | 0, _, _, _ :: _, h, _ => absurd h (by simp)
  | _ + 1, 0, _, _ :: _, _, h => absurd h (by simp)
  | n + 1, m + 1, L, c :: r, h1, h2 => by
    rw [rd_turn, rd_turn]
    cases e : turn L c r with
    | fail => rfl
    | go L' t =>
      have := turn_len e
      rw [List.length_cons] at h1 h2
      exact rd_fuel n m L' t (by omega) (by omega)
def RD (L : List (List PyData)) (t : List Nat) : Option (List (List PyData)) := rd t.length L t
theorem RD_nil (L : List (List PyData)) : RD L [] = some L := by unfold RD; rw [rd]
theorem RD_cons (L : List (List PyData)) (c : Nat) (r : List Nat) : RD L (c :: r) = (match turn L c r with | .fail => none | .go L' t => RD L' t) := by
  show rd (r.length + 1) L (c :: r) = _
  rw [rd_turn]
  cases e : turn L c r with
  | fail => rfl
  | go L' t => exact rd_fuel _ _ _ _ (turn_len e) (Nat.le_refl _)
end FL

set_option Elab.async false
set_option linter.all false
set_option maxRecDepth 10000
set_option maxHeartbeats 1000000
namespace FL
open PySem PySem.NumText

/-! #### what stands after a word -/
def hsep : List Nat → Bool
  | [] => true
  | c :: _ => isSep c
theorem tw_word {w r : List Nat} (hw : ∀ c ∈ w, isSep c = false) (hr : hsep r = true) : (w ++ r).takeWhile (fun x => !isSep x) = w ∧ (w ++ r).dropWhile (fun x => !isSep x) = r := by
  induction w with
  | nil =>
    cases r with
    | nil => exact ⟨rfl, rfl⟩
    | cons c r =>
      have e : isSep c = true := hr
      simp [List.takeWhile_cons, List.dropWhile_cons, e]
  | cons a w ih =>
    have ha := hw a (List.mem_cons_self ..)
    obtain ⟨h1, h2⟩ := ih fun c hc => hw c (List.mem_cons_of_mem _ hc)
    constructor
    · rw [List.cons_append, List.takeWhile_cons, if_pos (by rw [ha]; rfl), h1]
    · rw [List.cons_append, List.dropWhile_cons, if_pos (by rw [ha]; rfl), h2]
theorem tw_let {w r : List Nat} (hw : ∀ c ∈ w, isLet c = true) : (w ++ 34 :: r).takeWhile isLet = w ∧ (w ++ 34 :: r).dropWhile isLet = 34 :: r := by
  induction w with
  | nil => exact ⟨rfl, rfl⟩
  | cons a w ih =>
    have ha := hw a (List.mem_cons_self ..)
    obtain ⟨h1, h2⟩ := ih fun c hc => hw c (List.mem_cons_of_mem _ hc)
    constructor
    · rw [List.cons_append, List.takeWhile_cons, if_pos ha, h1]
    · rw [List.cons_append, List.dropWhile_cons, if_pos ha, h2]
theorem RD_word {top : List PyData} {ls : List (List PyData)} {w r : List Nat} {d : PyData} (h0 : w ≠ []) (hw : ∀ c ∈ w, isSep c = false) (hr : hsep r = true) (hd : rWord w = some d) : RD (top :: ls) (w ++ r) = RD ((top ++ [d]) :: ls) r := by
  obtain ⟨h1, h2⟩ := tw_word hw hr
  cases w with
  | nil => exact absurd rfl h0
  | cons c w =>
    have hc := hw c (List.mem_cons_self ..)
    have n1 : c ≠ 40 := fun e => by rw [e] at hc; exact absurd hc (by decide)
    have n2 : c ≠ 41 := fun e => by rw [e] at hc; exact absurd hc (by decide)
    have n3 : c ≠ 32 := fun e => by rw [e] at hc; exact absurd hc (by decide)
    have n4 : c ≠ 34 := fun e => by rw [e] at hc; exact absurd hc (by decide)
    have e : turn (top :: ls) c (w ++ r) = .go ((top ++ [d]) :: ls) r := by
      unfold turn
      rw [if_neg n1, if_neg n2, if_neg n3, if_neg n4]
      rw [← List.cons_append, h1, h2, hd]
      rfl
    rw [List.cons_append, RD_cons, e]
/-! #### data that claims consist of: strings of letters, ints of at most so many digits -/
mutual
def Cl (k : Nat) : PyData → Prop
  | .none => True
  | .bool _ => True
  | .int i => i.natAbs < 10 ^ k
  | .str x => ∀ c ∈ x.cps.toList, isLet c = true
  | .tuple ds => Cls k ds
  | .list _ => False
  | .dict _ => False
def Cls (k : Nat) : List PyData → Prop
  | [] => True
  | d :: ds => Cl k d ∧ Cls k ds
end
theorem Cls.mem {k : Nat} : ∀ {ds : List PyData}, Cls k ds → ∀ d ∈ ds, Cl k d
  | [], _, _, h => nomatch h
  | e :: ds, h, d, hd => by
    rcases List.mem_cons.mp hd with rfl | hd
    · exact h.1
    · exact Cls.mem h.2 d hd
theorem Cls.snoc {k : Nat} {d : PyData} (h : Cl k d) : ∀ {ds : List PyData}, Cls k ds → Cls k (ds ++ [d])
  | [], _ => ⟨h, True.intro⟩
  | _ :: _, q => ⟨q.1, Cls.snoc h q.2⟩
theorem sep_ic {i : Int} : ∀ c ∈ ic i, isSep c = false := by
  intro c hc
  have := ic_signs i c hc
  unfold isSep
  have h1 : c ≠ 32 := by omega
  have h2 : c ≠ 40 := by omega
  have h3 : c ≠ 41 := by omega
  have h4 : c ≠ 34 := by omega
  simp [h1, h2, h3, h4]
-- reading on behind a written value, behind written values
mutual
theorem RD_wr {k : Nat} : ∀ (d : PyData), Cl k d → ∀ (top : List PyData) (ls : List (List PyData)) (r : List Nat), hsep r = true → RD (top :: ls) (wr d ++ r) = RD ((top ++ [d]) :: ls) r
  | .none, _, top, ls, r, hr => RD_word (w := [45]) (by decide) (by decide) hr rfl
  | .bool true, _, top, ls, r, hr => RD_word (w := [84]) (by decide) (by decide) hr rfl
  | .bool false, _, top, ls, r, hr => RD_word (w := [70]) (by decide) (by decide) hr rfl
  | .int i, _, top, ls, r, hr => RD_word (ic_ne i).1 sep_ic hr (rWord_ic i)
  | .str x, h, top, ls, r, hr => by
    obtain ⟨h1, h2⟩ := tw_let (r := r) h
    have e : turn (top :: ls) 34 (x.cps.toList ++ 34 :: r) = .go ((top ++ [.str x]) :: ls) r := by
      unfold turn
      rw [if_neg (by decide), if_neg (by decide), if_neg (by decide), if_pos rfl, h1, h2, S_of]
      rfl
    show RD (top :: ls) ((34 :: x.cps.toList ++ [34]) ++ r) = _
    rw [List.append_assoc, List.cons_append, RD_cons]
    show (match turn (top :: ls) 34 (x.cps.toList ++ 34 :: r) with | .fail => none | .go L' t => RD L' t) = _
    rw [e]
  | .tuple ds, h, top, ls, r, hr => by
    show RD (top :: ls) ((40 :: jn [32] (wrs ds) ++ [41]) ++ r) = _
    rw [List.append_assoc, List.cons_append, RD_cons]
    show RD ([] :: top :: ls) (jn [32] (wrs ds) ++ 41 :: r) = _
    rw [RD_wrs ds h [] (top :: ls) (41 :: r) rfl, RD_cons, List.nil_append]
    rfl
  | .list _, h, _, _, _, _ => h.elim
  | .dict _, h, _, _, _, _ => h.elim
theorem RD_wrs {k : Nat} : ∀ (ds : List PyData), Cls k ds → ∀ (top : List PyData) (ls : List (List PyData)) (r : List Nat), hsep r = true → RD (top :: ls) (jn [32] (wrs ds) ++ r) = RD ((top ++ ds) :: ls) r
  | [], _, top, ls, r, hr => by
    show RD (top :: ls) r = _
    rw [List.append_nil]
  | [d], h, top, ls, r, hr => RD_wr d h.1 top ls r hr
  | d :: e :: ds, h, top, ls, r, hr => by
    show RD (top :: ls) ((wr d ++ [32] ++ jn [32] (wrs (e :: ds))) ++ r) = _
    rw [List.append_assoc, List.append_assoc, RD_wr d h.1 top ls _ (by rfl)]
    show RD ((top ++ [d]) :: ls) (32 :: (jn [32] (wrs (e :: ds)) ++ r)) = _
    rw [RD_cons]
    show RD ((top ++ [d]) :: ls) (jn [32] (wrs (e :: ds)) ++ r) = _
    rw [RD_wrs (e :: ds) h.2 (top ++ [d]) ls r hr, List.append_assoc]
    rfl
end
def isTup : PyData → Bool
  | .tuple _ => true
  | _ => false
/-- read_claim -/
def parse (l : List Nat) : Option PyData := match RD [[]] l with
  | some [[d]] => if isTup d = true ∧ wr d = l then some d else none
  | _ => none
theorem parse_wr {k : Nat} {ds : List PyData} (h : Cls k ds) : parse (wr (.tuple ds)) = some (.tuple ds) := by
  have e := RD_wr (.tuple ds) (show Cl k (.tuple ds) from h) [] [] [] rfl
  rw [List.append_nil, RD_nil, List.nil_append] at e
  unfold parse
  rw [e]
  show (if _ then _ else _) = _
  rw [if_pos ⟨rfl, rfl⟩]
theorem parse_some {l : List Nat} {d : PyData} (h : parse l = some d) : RD [[]] l = some [[d]] ∧ isTup d = true ∧ wr d = l := by
  unfold parse at h
  split at h
  · rename_i d' e
    split at h
    · rename_i q
      have : d' = d := Option.some.inj h
      subst this
      exact ⟨e, q.1, q.2⟩
    · cases h
  · cases h

/-! #### the longest run without a separator -/
def hd : List Nat → Nat
  | [] => 0
  | c :: r => if isSep c then 0 else hd r + 1
def mx : List Nat → Nat
  | [] => 0
  | c :: r => max (hd (c :: r)) (mx r)
theorem hd_app : ∀ a b : List Nat, hd (a ++ b) ≤ hd a + hd b
  | [], b => by simp [hd]
  | c :: a, b => by
    have := hd_app a b
    rw [List.cons_append, hd, hd]
    split <;> omega
theorem hd_mono : ∀ a b : List Nat, hd a ≤ hd (a ++ b)
  | [], b => Nat.zero_le _
  | c :: a, b => by
    have := hd_mono a b
    rw [List.cons_append, hd, hd]
    split <;> omega
theorem hd_mx (a : List Nat) : hd a ≤ mx a := by
  cases a with
  | nil => exact Nat.le_refl _
  | cons c r => exact Nat.le_max_left _ _
theorem mx_app : ∀ a b : List Nat, mx (a ++ b) ≤ mx a + mx b
  | [], b => by simp [mx]
  | c :: a, b => by
    have h1 := mx_app a b
    have h2 := hd_app (c :: a) b
    have h3 := hd_mx b
    rw [List.cons_append] at h2 ⊢
    rw [mx, mx]
    omega
theorem mx_left : ∀ a b : List Nat, mx a ≤ mx (a ++ b)
  | [], b => Nat.zero_le _
  | c :: a, b => by
    have h1 := mx_left a b
    have h2 := hd_mono (c :: a) b
    rw [List.cons_append] at h2 ⊢
    rw [mx, mx]
    omega
theorem mx_right : ∀ a b : List Nat, mx b ≤ mx (a ++ b)
  | [], b => Nat.le_refl _
  | c :: a, b => by
    have h1 := mx_right a b
    rw [List.cons_append, mx]
    omega
theorem hd_le (a : List Nat) : hd a ≤ a.length := by
  induction a with
  | nil => exact Nat.le_refl _
  | cons c r ih =>
    rw [hd, List.length_cons]
    split <;> omega
theorem mx_le (a : List Nat) : mx a ≤ a.length := by
  induction a with
  | nil => exact Nat.le_refl _
  | cons c r ih =>
    have := hd_le (c :: r)
    rw [mx, List.length_cons] at *
    omega
/-- ahead of a separator nothing is joined -/
theorem hd_sep {b : List Nat} (h : hsep b = true) : hd b = 0 := by
  cases b with
  | nil => rfl
  | cons c r =>
    have e : isSep c = true := h
    rw [hd, if_pos e]
theorem mx_sep {b : List Nat} (h : hsep b = true) : ∀ a : List Nat, mx (a ++ b) ≤ max (mx a) (mx b)
  | [] => by simp [mx]
  | c :: a => by
    have h1 := mx_sep h a
    have h2 := hd_app (c :: a) b
    rw [hd_sep h] at h2
    rw [List.cons_append] at h2 ⊢
    rw [mx, mx]
    omega
theorem hd_take : ∀ t : List Nat, (t.takeWhile fun x => !isSep x).length = hd t
  | [] => rfl
  | c :: r => by
    rw [List.takeWhile_cons, hd]
    cases isSep c with
    | true => rfl
    | false => simp [hd_take r]
theorem mx_drop {p : Nat → Bool} (t : List Nat) : mx (t.dropWhile p) ≤ mx t := by
  have := mx_right (t.takeWhile p) (t.dropWhile p)
  rwa [List.takeWhile_append_dropWhile] at this

/-! #### how deep the brackets stand -/
def dl (c : Nat) : Int := if c = 40 then 1 else if c = 41 then -1 else 0
def peak : List Nat → Int
  | [] => 0
  | c :: r => max 0 (dl c + peak r)
theorem peak_nn : ∀ t : List Nat, 0 ≤ peak t
  | [] => Int.le_refl _
  | c :: r => by rw [peak]; omega
theorem dl_two (c : Nat) : -1 ≤ dl c ∧ dl c ≤ 1 := by
  unfold dl
  split
  · omega
  · split <;> omega
theorem peak_mid {m m' b : List Nat} (h : m.length ≤ 1) (h' : m'.length ≤ 1) : ∀ a : List Nat, peak (a ++ (m' ++ b)) ≤ peak (a ++ (m ++ b)) + 2
  | [] => by
    have nb := peak_nn b
    rw [List.nil_append, List.nil_append]
    match m, m', h, h' with
    | [], [], _, _ => simp only [List.nil_append]; omega
    | [], [x], _, _ =>
      have := dl_two x
      simp only [List.nil_append, List.cons_append, peak]
      omega
    | [y], [], _, _ =>
      have := dl_two y
      simp only [List.nil_append, List.cons_append, peak]
      omega
    | [y], [x], _, _ =>
      have := dl_two x
      have := dl_two y
      simp only [List.nil_append, List.cons_append, peak]
      omega
    | _ :: _ :: _, _, h, _ => simp at h
    | _, _ :: _ :: _, _, h => simp at h
  | c :: a => by
    have := peak_mid (b := b) h h' a
    simp only [List.cons_append, peak]
    omega
mutual
def dep : PyData → Int
  | .tuple ds => 1 + deps ds
  | _ => 0
def deps : List PyData → Int
  | [] => 0
  | d :: ds => max (dep d) (deps ds)
end
theorem peak_flat {w : List Nat} (h : ∀ c ∈ w, c ≠ 40 ∧ c ≠ 41) (r : List Nat) : peak (w ++ r) = peak r := by
  induction w with
  | nil => rfl
  | cons c w ih =>
    obtain ⟨h1, h2⟩ := h c (List.mem_cons_self ..)
    have e := ih fun c hc => h c (List.mem_cons_of_mem _ hc)
    rw [List.cons_append, peak, e, dl, if_neg h1, if_neg h2]
    have := peak_nn r
    omega
mutual
theorem dep_nn : ∀ d : PyData, 0 ≤ dep d
  | .tuple ds => by rw [dep]; have := deps_nn ds; omega
  | .none => by simp [dep]
  | .bool _ => by simp [dep]
  | .int _ => by simp [dep]
  | .str _ => by simp [dep]
  | .list _ => by simp [dep]
  | .dict _ => by simp [dep]
theorem deps_nn : ∀ ds : List PyData, 0 ≤ deps ds
  | [] => by simp [deps]
  | d :: ds => by rw [deps]; have := dep_nn d; omega
end
theorem let_flat {c : Nat} (h : isLet c = true) : c ≠ 40 ∧ c ≠ 41 := by
  constructor
  · intro e; rw [e] at h; exact absurd h (by decide)
  · intro e; rw [e] at h; exact absurd h (by decide)
mutual
theorem peak_wr {k : Nat} : ∀ (d : PyData), Cl k d → ∀ r : List Nat, peak (wr d ++ r) = max (dep d) (peak r)
  | .none, _, r => by
    have := peak_nn r
    rw [show wr .none = [45] from rfl, peak_flat (by decide), dep]
    · omega
    · intro ds h; cases h
  | .bool true, _, r => by
    have := peak_nn r
    rw [show wr (.bool true) = [84] from rfl, peak_flat (by decide), dep]
    · omega
    · intro ds h; cases h
  | .bool false, _, r => by
    have := peak_nn r
    rw [show wr (.bool false) = [70] from rfl, peak_flat (by decide), dep]
    · omega
    · intro ds h; cases h
  | .int i, _, r => by
    have := peak_nn r
    rw [show wr (.int i) = ic i from rfl, peak_flat (fun c hc => by have := ic_signs i c hc; omega), dep]
    · omega
    · intro ds h; cases h
  | .str x, h, r => by
    have := peak_nn r
    rw [show wr (.str x) = 34 :: x.cps.toList ++ [34] from rfl, peak_flat, dep]
    · omega
    · intro ds h; cases h
    · intro c hc
      rcases List.mem_append.mp hc with hc | hc
      · rcases List.mem_cons.mp hc with rfl | hc
        · decide
        · exact let_flat (h c hc)
      · rw [List.mem_singleton.mp hc]; decide
  | .tuple ds, h, r => by
    have n1 := deps_nn ds
    have n2 := peak_nn r
    show peak ((40 :: jn [32] (wrs ds) ++ [41]) ++ r) = _
    rw [List.append_assoc, List.cons_append, peak, peak_wrs ds h, dep]
    show max 0 (1 + max (deps ds) (max 0 (-1 + peak r))) = max (1 + deps ds) (peak r)
    omega
  | .list _, h, _ => h.elim
  | .dict _, h, _ => h.elim
theorem peak_wrs {k : Nat} : ∀ (ds : List PyData), Cls k ds → ∀ r : List Nat, peak (jn [32] (wrs ds) ++ r) = max (deps ds) (peak r)
  | [], _, r => by
    have := peak_nn r
    show peak r = _
    rw [deps]
    omega
  | [d], h, r => by
    show peak (wr d ++ r) = _
    have n := dep_nn d
    have m := peak_nn r
    rw [peak_wr d h.1, deps, deps]
    omega
  | d :: e :: ds, h, r => by
    show peak ((wr d ++ [32] ++ jn [32] (wrs (e :: ds))) ++ r) = _
    rw [List.append_assoc, List.append_assoc, peak_wr d h.1]
    have := peak_nn (jn [32] (wrs (e :: ds)) ++ r)
    rw [show ([32] : List Nat) ++ (jn [32] (wrs (e :: ds)) ++ r) = [32] ++ (jn [32] (wrs (e :: ds)) ++ r) from rfl, peak_flat (w := [32]) (by decide), peak_wrs (e :: ds) h.2, show deps (d :: e :: ds) = max (dep d) (deps (e :: ds)) by rw [deps]]
    omega
end
end FL

set_option Elab.async false
set_option linter.all false
set_option maxRecDepth 10000
set_option maxHeartbeats 1000000
namespace FL
open PySem PySem.NumText

/-! #### one turn of the reader, by its ways -/
inductive TurnIs (L : List (List PyData)) (c : Nat) (r : List Nat) (L' : List (List PyData)) (t : List Nat) : Prop where
  | opens (h : c = 40) (e : L' = [] :: L) (q : t = r)
  | closes (h : c = 41) (top nx : List PyData) (ls : List (List PyData)) (eL : L = top :: nx :: ls) (e : L' = (nx ++ [.tuple top]) :: ls) (q : t = r)
  | space (h : c = 32) (e : L' = L) (q : t = r)
  | text (h : c = 34) (w : List Nat) (hr : r = w ++ 34 :: t) (hw : ∀ c ∈ w, isLet c = true) (e : L' = push L (.str (S w)))
  | word (h1 : isSep c = false) (w : List Nat) (d : PyData) (hr : c :: r = w ++ t) (hl : w.length = hd (c :: r)) (hw : rWord w = some d) (e : L' = push L d)
theorem sep_ne {c : Nat} (h1 : c ≠ 40) (h2 : c ≠ 41) (h3 : c ≠ 32) (h4 : c ≠ 34) : isSep c = false := by
  unfold isSep
  simp [h1, h2, h3, h4]
theorem turn_is {L L' : List (List PyData)} {c : Nat} {r t : List Nat} (h : turn L c r = .go L' t) : TurnIs L c r L' t := by
  unfold turn at h
  by_cases h1 : c = 40
  · rw [if_pos h1] at h
    injection h with e q
    exact .opens h1 e.symm q.symm
  rw [if_neg h1] at h
  by_cases h2 : c = 41
  · rw [if_pos h2] at h
    match L, h with
    | top :: nx :: ls, h =>
      injection h with e q
      exact .closes h2 top nx ls rfl e.symm q.symm
  rw [if_neg h2] at h
  by_cases h3 : c = 32
  · rw [if_pos h3] at h
    injection h with e q
    exact .space h3 e.symm q.symm
  rw [if_neg h3] at h
  by_cases h4 : c = 34
  · rw [if_pos h4] at h
    split at h
    · rename_i r' e
      injection h with e1 q
      refine .text h4 (r.takeWhile isLet) ?_ ?_ e1.symm
      · rw [← q, ← e, List.takeWhile_append_dropWhile]
      · intro a ha
        exact List.all_takeWhile (p := isLet) (l := r) |> fun z => (List.all_eq_true.mp z) a ha
    · cases h
  rw [if_neg h4] at h
  split at h
  · rename_i d e
    injection h with e1 q
    refine .word (sep_ne h1 h2 h3 h4) _ d ?_ (hd_take (c :: r)) e e1.symm
    rw [← q, List.takeWhile_append_dropWhile]
  · cases h
theorem rWord_cl {w : List Nat} {d : PyData} {k : Nat} (h : rWord w = some d) (hk : w.length ≤ k) : Cl k d := by
  unfold rWord at h
  split at h
  · rw [← Option.some.inj h]; exact True.intro
  split at h
  · rw [← Option.some.inj h]; exact True.intro
  split at h
  · rw [← Option.some.inj h]; exact True.intro
  cases q : rInt w with
  | none => rw [q] at h; cases h
  | some i =>
    rw [q] at h
    rw [← Option.some.inj h]
    show i.natAbs < 10 ^ k
    have e := ic_back q
    have lt : i.natAbs < 10 ^ (dg i.natAbs).length := by
      have := digitsVal_lt (dg i.natAbs) (dg_digits _)
      rwa [dg_val] at this
    have le : (dg i.natAbs).length ≤ w.length := by
      rw [← e]
      unfold ic
      split
      · rw [List.length_cons]; omega
      · exact Nat.le_refl _
    exact Nat.lt_of_lt_of_le lt (Nat.pow_le_pow_right (by decide) (by omega))
theorem rWord_len {w : List Nat} {d : PyData} (h : rWord w = some d) : (wr d).length = w.length := by
  unfold rWord at h
  split at h
  · rename_i e; rw [← Option.some.inj h, e]; rfl
  split at h
  · rename_i e; rw [← Option.some.inj h, e]; rfl
  split at h
  · rename_i e; rw [← Option.some.inj h, e]; rfl
  cases q : rInt w with
  | none => rw [q] at h; cases h
  | some i =>
    rw [q] at h
    rw [← Option.some.inj h]
    show (ic i).length = _
    rw [ic_back q]

/-! #### what the reader makes is clean, and not much longer when written -/
def Cln (k : Nat) (L : List (List PyData)) : Prop := ∀ top ∈ L, Cls k top
theorem Cln.push {k : Nat} {L : List (List PyData)} {d : PyData} (h : Cln k L) (hd : Cl k d) : Cln k (push L d) := by
  cases L with
  | nil => exact h
  | cons top ls =>
    intro x hx
    rcases List.mem_cons.mp hx with rfl | hx
    · exact Cls.snoc hd (h top (List.mem_cons_self ..))
    · exact h x (List.mem_cons_of_mem _ hx)
theorem turn_clean {k : Nat} {L L' : List (List PyData)} {c : Nat} {r t : List Nat} (x : TurnIs L c r L' t) (hk : mx (c :: r) ≤ k) (h : Cln k L) : Cln k L' ∧ mx t ≤ k := by
  have hr : mx r ≤ k := Nat.le_trans (mx_right [c] r) hk
  cases x with
  | opens _ e q =>
    rw [e, q]
    refine ⟨fun x hx => ?_, hr⟩
    rcases List.mem_cons.mp hx with rfl | hx
    · exact True.intro
    · exact h x hx
  | closes _ top nx ls eL e q =>
    rw [e, q]
    rw [eL] at h
    refine ⟨fun x hx => ?_, hr⟩
    rcases List.mem_cons.mp hx with rfl | hx
    · exact Cls.snoc (show Cl k (.tuple top) from h top (List.mem_cons_self ..)) (h nx (List.mem_cons_of_mem _ (List.mem_cons_self ..)))
    · exact h x (List.mem_cons_of_mem _ (List.mem_cons_of_mem _ hx))
  | space _ e q =>
    rw [e, q]
    exact ⟨h, hr⟩
  | text _ w e1 hw e =>
    rw [e]
    refine ⟨h.push (show Cl k (.str (S w)) from hw), ?_⟩
    rw [e1] at hr
    have := mx_right (w ++ [34]) t
    rw [List.append_assoc] at this
    exact Nat.le_trans this hr
  | word _ w d e1 hl hw e =>
    rw [e]
    have h1 : w.length ≤ k := by
      rw [hl]
      exact Nat.le_trans (hd_mx _) hk
    refine ⟨h.push (rWord_cl hw h1), ?_⟩
    rw [e1] at hk
    exact Nat.le_trans (mx_right w t) hk
theorem RD_clean {k : Nat} : ∀ (n : Nat) (L L' : List (List PyData)) (t : List Nat), t.length ≤ n → mx t ≤ k → Cln k L → RD L t = some L' → Cln k L'
  | _, L, L', [], _, _, h, e => by
    rw [RD_nil] at e
    rw [← Option.some.inj e]
    exact h
  | 0, _, _, _ :: _, h, _, _, _ => absurd h (by simp)
  | n + 1, L, L', c :: r, hn, hk, h, e => by
    rw [RD_cons] at e
    cases q : turn L c r with
    | fail => rw [q] at e; cases e
    | go L₁ t =>
      rw [q] at e
      obtain ⟨h1, h2⟩ := turn_clean (turn_is q) hk h
      have := turn_len q
      rw [List.length_cons] at hn
      exact RD_clean n L₁ L' t (by omega) h2 h1 e
def wl : List PyData → Nat
  | [] => 0
  | d :: ds => (wr d).length + 1 + wl ds
def wt : List (List PyData) → Nat
  | [] => 0
  | top :: ls => wl top + 2 + wt ls
theorem wl_snoc (d : PyData) : ∀ ds : List PyData, wl (ds ++ [d]) = wl ds + (wr d).length + 1
  | [] => by simp [wl]
  | e :: ds => by
    rw [List.cons_append, wl, wl, wl_snoc d ds]
    omega
theorem jn_len : ∀ ds : List PyData, (jn [32] (wrs ds)).length ≤ wl ds
  | [] => Nat.le_refl _
  | [d] => by
    show (wr d).length ≤ (wr d).length + 1 + 0
    omega
  | d :: e :: ds => by
    show (wr d ++ [32] ++ jn [32] (wrs (e :: ds))).length ≤ _
    have := jn_len (e :: ds)
    rw [List.length_append, List.length_append, wl]
    simp only [List.length_cons, List.length_nil]
    omega
theorem wt_push (L : List (List PyData)) (d : PyData) : wt (push L d) ≤ wt L + (wr d).length + 1 := by
  cases L with
  | nil => exact Nat.zero_le _
  | cons top ls =>
    show wl (top ++ [d]) + 2 + wt ls ≤ wl top + 2 + wt ls + (wr d).length + 1
    rw [wl_snoc]
    omega
theorem turn_wt {L L' : List (List PyData)} {c : Nat} {r t : List Nat} (x : TurnIs L c r L' t) : wt L' + 2 * t.length ≤ wt L + 2 * (r.length + 1) := by
  cases x with
  | opens _ e q =>
    rw [e, q]
    show 0 + 2 + wt L + 2 * r.length ≤ _
    omega
  | closes _ top nx ls eL e q =>
    rw [e, q, eL]
    show wl (nx ++ [.tuple top]) + 2 + wt ls + _ ≤ wl top + 2 + (wl nx + 2 + wt ls) + _
    have h1 := jn_len top
    have h2 : (wr (.tuple top)).length = (jn [32] (wrs top)).length + 2 := by
      show (40 :: jn [32] (wrs top) ++ [41]).length = _
      simp
    rw [wl_snoc, h2]
    omega
  | space _ e q =>
    rw [e, q]
    omega
  | text _ w e1 hw e =>
    have h1 := wt_push L (.str (S w))
    have h2 : (wr (.str (S w))).length = w.length + 2 := by
      show (34 :: w ++ [34]).length = _
      simp
    rw [e, e1, List.length_append, List.length_cons]
    omega
  | word _ w d e1 hl hw e =>
    have h1 := wt_push L d
    have h2 := rWord_len hw
    have h3 : r.length + 1 = w.length + t.length := by
      rw [← List.length_cons (a := c), e1, List.length_append]
    have h4 : 0 < w.length := by
      rw [hl, hd]
      rename_i hs
      rw [if_neg (by rw [hs]; decide)]
      omega
    rw [e]
    omega
theorem RD_wt : ∀ (n : Nat) (L L' : List (List PyData)) (t : List Nat), t.length ≤ n → RD L t = some L' → wt L' ≤ wt L + 2 * t.length
  | _, L, L', [], _, e => by
    rw [RD_nil] at e
    rw [← Option.some.inj e]
    exact Nat.le_refl _
  | 0, _, _, _ :: _, h, _ => absurd h (by simp)
  | n + 1, L, L', c :: r, hn, e => by
    rw [RD_cons] at e
    cases q : turn L c r with
    | fail => rw [q] at e; cases e
    | go L₁ t =>
      rw [q] at e
      have h1 := turn_wt (turn_is q)
      have := turn_len q
      rw [List.length_cons] at hn
      have h2 := RD_wt n L₁ L' t (by omega) e
      rw [List.length_cons]
      omega
/-- what stands alone behind the reader -/
theorem RD_one {k : Nat} {l : List Nat} {d : PyData} (hk : mx l ≤ k) (h : RD [[]] l = some [[d]]) : Cl k d ∧ (wr d).length ≤ 2 * l.length := by
  have h1 := RD_clean (k := k) l.length [[]] [[d]] l (Nat.le_refl _) hk (fun x hx => by rw [List.mem_singleton.mp hx]; exact True.intro) h
  have h2 := RD_wt l.length [[]] [[d]] l (Nat.le_refl _) h
  refine ⟨(h1 [d] (List.mem_cons_self ..)).1, ?_⟩
  have e1 : wt [[d]] = (wr d).length + 1 + 2 := by simp [wt, wl]
  have e2 : wt [[]] = 2 := rfl
  rw [e1, e2] at h2
  omega

/-! #### the law's values -/
def bnd : Nat → Nat
  | 0 => 50
  | n + 1 => 4 * bnd n + 6
theorem bnd_ge : ∀ n : Nat, 50 ≤ bnd n
  | 0 => Nat.le_refl _
  | n + 1 => by have := bnd_ge n; rw [bnd]; omega
theorem ic_len {i : Int} {k : Nat} (hk : 1 ≤ k) (h : i.natAbs < 10 ^ k) : (ic i).length ≤ k + 1 := by
  have := dg_len hk h
  unfold ic
  split
  · rw [List.length_cons]; omega
  · omega
theorem let_good {c : Nat} (h : c ∈ lawLetters) : isLet c = true := by
  revert c
  decide
mutual
theorem good_cl : ∀ (n : Nat) (d : PyData), Good n d → Cl 41 d
  | _, .none, _ => True.intro
  | _, .bool _, _ => True.intro
  | _, .int _, h => h
  | _, .str _, h => fun c hc => let_good (h.2 c hc)
  | n, .tuple ds, h => by
    obtain ⟨m, _, _, hs⟩ := h
    exact goods_cl m ds hs
  | _, .list _, h => h.elim
  | _, .dict _, h => h.elim
theorem goods_cl : ∀ (n : Nat) (ds : List PyData), GoodAll n ds → Cls 41 ds
  | _, [], _ => True.intro
  | n, d :: ds, h => ⟨good_cl n d h.1, goods_cl n ds h.2⟩
end
mutual
theorem good_len : ∀ (n : Nat) (d : PyData), Good n d → (wr d).length ≤ bnd n
  | n, .none, _ => by have := bnd_ge n; show 1 ≤ _; omega
  | n, .bool true, _ => by have := bnd_ge n; show 1 ≤ _; omega
  | n, .bool false, _ => by have := bnd_ge n; show 1 ≤ _; omega
  | n, .int i, h => by
    have := bnd_ge n
    have := ic_len (by decide) (show i.natAbs < 10 ^ 41 from h)
    show (ic i).length ≤ _
    omega
  | n, .str x, h => by
    have := bnd_ge n
    have h1 : x.cps.toList.length ≤ 6 := by rw [Array.length_toList]; exact h.1
    show (34 :: x.cps.toList ++ [34]).length ≤ _
    simp only [List.length_append, List.length_cons, List.length_nil]
    omega
  | n, .tuple ds, h => by
    obtain ⟨m, rfl, hl, hs⟩ := h
    have h1 := goods_len m ds hs
    have h2 := jn_len ds
    have h3 := Nat.mul_le_mul_right (bnd m + 1) hl
    show (40 :: jn [32] (wrs ds) ++ [41]).length ≤ _
    simp only [List.length_append, List.length_cons, List.length_nil, bnd]
    omega
  | _, .list _, h => h.elim
  | _, .dict _, h => h.elim
theorem goods_len : ∀ (n : Nat) (ds : List PyData), GoodAll n ds → wl ds ≤ ds.length * (bnd n + 1)
  | _, [], _ => Nat.zero_le _
  | n, d :: ds, h => by
    have h1 := good_len n d h.1
    have h2 := goods_len n ds h.2
    rw [wl, List.length_cons, Nat.succ_mul]
    omega
end
theorem mx_good {w r : List Nat} (hw : w.length ≤ 50) (hr : hsep r = true) : mx (w ++ r) ≤ max 50 (mx r) := by
  have := mx_sep hr w
  have := mx_le w
  omega
mutual
theorem good_mx : ∀ (n : Nat) (d : PyData), Good n d → ∀ r : List Nat, hsep r = true → mx (wr d ++ r) ≤ max 50 (mx r)
  | _, .none, _, r, hr => mx_good (w := [45]) (by decide) hr
  | _, .bool true, _, r, hr => mx_good (w := [84]) (by decide) hr
  | _, .bool false, _, r, hr => mx_good (w := [70]) (by decide) hr
  | _, .int i, h, r, hr => mx_good (by have := ic_len (by decide) (show i.natAbs < 10 ^ 41 from h); show (ic i).length ≤ 50; omega) hr
  | _, .str x, h, r, hr => mx_good (by
      have h1 : x.cps.toList.length ≤ 6 := by rw [Array.length_toList]; exact h.1
      show (34 :: x.cps.toList ++ [34]).length ≤ 50
      simp only [List.length_append, List.length_cons, List.length_nil]
      omega) hr
  | n, .tuple ds, h, r, hr => by
    obtain ⟨m, rfl, hl, hs⟩ := h
    show mx ((40 :: jn [32] (wrs ds) ++ [41]) ++ r) ≤ _
    rw [List.append_assoc, List.cons_append, mx]
    have h1 := goods_mx m ds hs (41 :: r) rfl
    have h2 : mx (41 :: r) = mx r := by
      rw [mx, show hd (41 :: r) = 0 from rfl]
      omega
    have h3 : hd (40 :: (jn [32] (wrs ds) ++ ([41] ++ r))) = 0 := rfl
    rw [h3, show ([41] : List Nat) ++ r = 41 :: r from rfl]
    omega
  | _, .list _, h, _, _ => h.elim
  | _, .dict _, h, _, _ => h.elim
theorem goods_mx : ∀ (n : Nat) (ds : List PyData), GoodAll n ds → ∀ r : List Nat, hsep r = true → mx (jn [32] (wrs ds) ++ r) ≤ max 50 (mx r)
  | _, [], _, r, _ => by
    show mx r ≤ _
    omega
  | n, [d], h, r, hr => good_mx n d h.1 r hr
  | n, d :: e :: ds, h, r, hr => by
    show mx ((wr d ++ [32] ++ jn [32] (wrs (e :: ds))) ++ r) ≤ _
    rw [List.append_assoc, List.append_assoc]
    have h1 := good_mx n d h.1 ([32] ++ (jn [32] (wrs (e :: ds)) ++ r)) rfl
    have h2 := goods_mx n (e :: ds) h.2 r hr
    have h3 : mx ([32] ++ (jn [32] (wrs (e :: ds)) ++ r)) = mx (jn [32] (wrs (e :: ds)) ++ r) := by
      show max 0 (mx (jn [32] (wrs (e :: ds)) ++ r)) = _
      exact Nat.max_eq_right (Nat.zero_le _)
    omega
end
mutual
theorem good_dep : ∀ (n : Nat) (d : PyData), Good n d → dep d ≤ n
  | n, .none, _ => by simp [dep]
  | n, .bool _, _ => by simp [dep]
  | n, .int _, _ => by simp [dep]
  | n, .str _, _ => by simp [dep]
  | n, .tuple ds, h => by
    obtain ⟨m, rfl, hl, hs⟩ := h
    have := goods_dep m ds hs
    rw [dep]
    omega
  | _, .list _, h => h.elim
  | _, .dict _, h => h.elim
theorem goods_dep : ∀ (n : Nat) (ds : List PyData), GoodAll n ds → deps ds ≤ n
  | n, [], _ => by simp [deps]
  | n, d :: ds, h => by
    have := good_dep n d h.1
    have := goods_dep n ds h.2
    rw [deps]
    omega
end
end FL

set_option Elab.async false
set_option linter.all false
set_option maxRecDepth 100000
set_option maxHeartbeats 1000000
namespace FL
open PySem PySem.Spec PyProof.Rows L2 PySem.NumText

/-! ### rules of one's own -/
section
variable {X : Cx}
/-- x is True, x is False: x of any kind -/
theorem op_isB : OpR X (compareOp .Is) (fun x y H Q => ∃ b : Bool, y = .bl b ∧ Q (.bl (decide (x = .bl b))) H) := by
  intro pins s σ H x y v u Q I rx ry h
  obtain ⟨b, rfl, q⟩ := h
  cases (show u = Value.bool b from ry)
  have fin : ∀ k : Bool, decide (x = .bl b) = k → EP X pins σ Q (.bool k) s := fun k e => ⟨.bl k, H, I, rfl, by rw [← e]; exact q⟩
  cases x with
  | non => cases (show v = Value.none from rx); exact wpAny_is_plain rfl (fin _ rfl)
  | bl c =>
    cases (show v = Value.bool c from rx)
    refine wpAny_is_plain rfl (fin _ ?_)
    cases b <;> cases c <;> rfl
  | int i => obtain ⟨t, rfl⟩ := (show ∃ t, v = Value.int i t from rx); exact wpAny_is_plain rfl (fin _ rfl)
  | str z => obtain ⟨t, rfl⟩ := (show ∃ t, v = Value.str z t from rx); exact wpAny_is_plain rfl (fin _ rfl)
  | byt z => obtain ⟨t, rfl⟩ := (show ∃ t, v = Value.bytes z t from rx); exact wpAny_is_plain rfl (fin _ rfl)
  | flt z => obtain ⟨t, rfl⟩ := (show ∃ t, v = Value.float z t from rx); exact wpAny_is_plain rfl (fin _ rfl)
  | ref a => cases (show v = Value.ref a from rx); exact wpAny_is_plain rfl (fin _ rfl)
  | ty n => cases (show v = Value.type n from rx); exact wpAny_is_plain rfl (fin _ rfl)
theorem op_notB : OpR X (compareOp .IsNot) (fun x y H Q => ∃ b : Bool, y = .bl b ∧ Q (.bl (!decide (x = .bl b))) H) := by
  intro pins s σ H x y v u Q I rx ry h
  obtain ⟨b, rfl, q⟩ := h
  cases (show u = Value.bool b from ry)
  have fin : ∀ k : Bool, decide (x = .bl b) = k → EP X pins σ Q (.bool (!k)) s := fun k e => ⟨.bl (!k), H, I, rfl, by rw [← e]; exact q⟩
  cases x with
  | non => cases (show v = Value.none from rx); exact wpAny_isNot_plain rfl (fin false rfl)
  | bl c =>
    cases (show v = Value.bool c from rx)
    refine wpAny_isNot_plain rfl (fin _ ?_)
    cases b <;> cases c <;> rfl
  | int i => obtain ⟨t, rfl⟩ := (show ∃ t, v = Value.int i t from rx); exact wpAny_isNot_plain rfl (fin false rfl)
  | str z => obtain ⟨t, rfl⟩ := (show ∃ t, v = Value.str z t from rx); exact wpAny_isNot_plain rfl (fin false rfl)
  | byt z => obtain ⟨t, rfl⟩ := (show ∃ t, v = Value.bytes z t from rx); exact wpAny_isNot_plain rfl (fin false rfl)
  | flt z => obtain ⟨t, rfl⟩ := (show ∃ t, v = Value.float z t from rx); exact wpAny_isNot_plain rfl (fin false rfl)
  | ref a => cases (show v = Value.ref a from rx); exact wpAny_isNot_plain rfl (fin false rfl)
  | ty n => cases (show v = Value.type n from rx); exact wpAny_isNot_plain rfl (fin false rfl)
/-- s.rjust(n, fill) -/
theorem mt_rjustF : MtR X "str.rjust" (fun x xs H Q => ∃ (a : Str) (i : Int) (f : Str), x = .str a ∧ xs = [.int i, .str f] ∧ PadOk i = true ∧ f.length = 1 ∧ Q (.str (Txt.rjustF a i (f.cps.getD 0 0))) H) := by
  intro pins s σ H x xs v us Q I rx rv h
  obtain ⟨a, i, f, rfl, rfl, hp, hf, q⟩ := h
  obtain ⟨t, rfl⟩ := rx
  obtain ⟨u1, u2, rfl, ⟨t1, rfl⟩, ⟨t2, rfl⟩⟩ := vals2 rv
  exact rjust_fill hp hf fun t' k => ⟨.str _, H, I.tok _, ⟨_, rfl⟩, q⟩
end
/-- for c in text -/
theorem for_txt {z : Str} {g : TG} {tb : TS} {D : Ends} {σ : L2.St} {H : Hp} (Pv : Nat → L2.St → Hp → Prop) (h0 : Pv 0 σ H)
    (hs : ∀ i c σ H, z.cps[i]? = some c → Pv i σ H → g (.str ⟨#[c]⟩) σ H fun σ2 H2 => tb { D with nx := Pv (i + 1), ct := Pv (i + 1), bk := D.nx } σ2 H2) (hd : ∀ σ H, Pv z.cps.size σ H → D.nx σ H) :
    ∃ W : Nat → Nat → L2.St → Hp → Prop, (∃ m, W 0 m σ H) ∧ ∀ i m σ H, W i m σ H →
      ((Its z).stop i H ∧ D.nx σ H) ∨ ((Its z).go i H ∧ ∃ N : L2.St → Hp → Prop, (∀ σ' H', N σ' H' → ∃ m', m' < m ∧ W (i + 1) m' σ' H') ∧ ∀ x H', (Its z).yld i H x H' → g x σ H' fun σ2 H2 => tb { D with nx := N, ct := N, bk := D.nx } σ2 H2) := by
  refine ⟨fun i m σ H => m = z.cps.size - i ∧ i ≤ z.cps.size ∧ Pv i σ H, ⟨z.cps.size, by simp, Nat.zero_le _, h0⟩, ?_⟩
  rintro i m σ H ⟨rfl, hi, p⟩
  by_cases hlt : i < z.cps.size
  · refine .inr ⟨hlt, Pv (i + 1), fun σ' H' p' => ⟨z.cps.size - (i + 1), by omega, rfl, hlt, p'⟩, fun x H' y => ?_⟩
    obtain ⟨rfl, c, hc, rfl⟩ := y
    exact hs i c σ _ hc p
  · have e : i = z.cps.size := by omega
    subst e
    exact .inl ⟨Nat.le_refl _, hd σ H p⟩
/-! ### slices of texts -/
theorem cut_from (l : List Nat) (i : Nat) : cutS (S l) (some (i : Int)) none = S (l.drop i) := by
  show S _ = S _
  congr 1
  rw [HT.sIx_nat, HT.sIx_none]
  show (l.drop (min i l.length)).take (l.length - min i l.length) = l.drop i
  by_cases h : i ≤ l.length
  · rw [Nat.min_eq_left h]
    exact List.take_of_length_le (by rw [List.length_drop]; exact Nat.le_refl _)
  · rw [Nat.min_eq_right (by omega), Nat.sub_self, List.take_zero, List.drop_of_length_le (by omega)]
theorem cut_to (l : List Nat) (j : Nat) : cutS (S l) none (some (j : Int)) = S (l.take j) := by
  show S _ = S _
  congr 1
  rw [HT.sIx_nat, HT.sIx_none]
  show (l.drop 0).take (min j l.length - 0) = l.take j
  rw [List.drop_zero, Nat.sub_zero]
  by_cases h : j ≤ l.length
  · rw [Nat.min_eq_left h]
  · rw [Nat.min_eq_right (by omega), List.take_of_length_le (Nat.le_refl _), List.take_of_length_le (by omega)]
theorem cut_in (l : List Nat) (i j : Nat) : cutS (S l) (some (i : Int)) (some (j : Int)) = S ((l.drop i).take (j - i)) := by
  show S _ = S _
  congr 1
  rw [HT.sIx_nat, HT.sIx_nat]
  show (l.drop (min i l.length)).take (min j l.length - min i l.length) = (l.drop i).take (j - i)
  by_cases h : i ≤ l.length
  · rw [Nat.min_eq_left h]
    by_cases h2 : j ≤ l.length
    · rw [Nat.min_eq_left h2]
    · rw [Nat.min_eq_right (by omega), List.take_of_length_le (by rw [List.length_drop]; exact Nat.le_refl _), List.take_of_length_le (by rw [List.length_drop]; omega)]
  · rw [Nat.min_eq_right (show l.length ≤ i by omega), List.drop_of_length_le (Nat.le_refl _), List.drop_of_length_le (show l.length ≤ i by omega), List.take_nil, List.take_nil]
theorem starts_minus (l : List Nat) : Txt.startswith (S l) (S [45]) = decide (l.head? = some 45) := by
  cases l with
  | nil => rfl
  | cons c r =>
    unfold Txt.startswith
    have h1 : decide (0 + (S [45]).length ≤ (S (c :: r)).length) = true := by
      refine decide_eq_true ?_
      show 0 + 1 ≤ r.length + 1
      omega
    rw [h1, Bool.true_and]
    show Builtin.Str.subAt (S (c :: r)) (S [45]) 0 = _
    unfold Builtin.Str.subAt
    show ((c :: r).toArray.extract 0 (0 + 1) == #[45]) = _
    have : (c :: r).toArray.extract 0 (0 + 1) = #[c] := by simp
    rw [this]
    by_cases h : c = 45
    · subst h
      simp
    · simp [h]
theorem log_ok {n : Nat} (h : n < 10 ^ 500) : n.log2 < 1920 := by
  by_cases h0 : n = 0
  · subst h0; decide
  · rw [Nat.log2_lt h0]
    exact Nat.lt_trans h (by decide +kernel)

section
variable {P : Program} {w : World} {K : PySem.W.Frag} {mg : Str → Option Value} {base : Heap}
def spBase : Sp := fun vs H Q _ => vs = [] ∧ Q (.int ((10 ^ 1024 : Nat) : Int)) H
abbrev s_piece_base : Stmt := topS 11
abbrev N_piece_base : List Str := ["base", "_"]
theorem sc_piece_base : FnScope N_piece_base [] (defScope s_piece_base) := ⟨rfl, rfl, rfl, by decide +kernel, rfl, by decide +kernel, by decide +kernel⟩
theorem ok_piece_base {f : Addr} {fd : FuncData} (D : DefAt K mg "piece_base" s_piece_base [] f fd) (z_range : mg "range" = none) : FnOk P w K mg base CX0 1 f fd [] spBase := by
  refine D.F.ok sc_piece_base (fun vs H Q E h => ?_) (fun cdv A outer s H vs Q E hr h => ?_)
  · obtain ⟨rfl, _⟩ := h
    rfl
  obtain ⟨rfl, q⟩ := h
  refine ⟨_, (pss_cons (ps_set (i := 0) sc_piece_base.nd rfl (Or.inl rfl) pe_int)
      (pss_cons (ps_for PassesOwn.never rfl (pi_range1 (by rfl) z_range (pa_cons pe_int pa_nil)) (pg_name (i := 1) sc_piece_base.nd rfl (Or.inl rfl))
        (pss_one (ps_set (i := 0) sc_piece_base.nd rfl (Or.inl rfl) (pe_op op_mulW (pv 0) (pv 0)))))
      (pss_one (ps_ret (pv 0))))), ?_⟩
  refine ⟨10, rfl, by decide, by decide, for_range (lo := 0) (n := 10) (fun i σ H' => ∃ v, σ = [some (.int ((10 ^ (2 ^ i) : Nat) : Int)), v] ∧ H' = H) ⟨none, rfl, rfl⟩ ?_ ?_⟩
  · rintro i σ H' hi ⟨v, rfl, rfl⟩
    have hb : (((10 ^ (2 ^ i) : Nat) : Int)).natAbs < 2 ^ 4000 := by
      rw [Int.natAbs_natCast]
      have h1 : 2 ^ i ≤ 2 ^ 10 := Nat.pow_le_pow_right (by decide) (by omega)
      exact Nat.lt_of_le_of_lt (Nat.pow_le_pow_right (by decide) h1) (by decide +kernel)
    refine ⟨_, rfl, _, rfl, _, _, rfl, rfl, wide_mul hb hb (by decide) (by decide) (by decide), some (.int (0 + i)), ?_, rfl⟩
    dsimp only [List.set]
    rw [← Int.natCast_mul, ← Nat.pow_add, Nat.pow_succ, Nat.mul_two]
  · rintro σ H' ⟨v, rfl, rfl⟩
    exact ⟨_, rfl, q⟩
end
end FL

set_option Elab.async false
set_option linter.all false
set_option maxRecDepth 100000
set_option maxHeartbeats 1000000
namespace FL
open PySem PySem.Spec PyProof.Rows L2 PySem.NumText
section
variable {P : Program} {w : World} {K : PySem.W.Frag} {mg : Str → Option Value} {base : Heap}
theorem pow_le_base : (10 : Nat) ^ 500 ≤ 10 ^ 1024 := Nat.pow_le_pow_right (by decide) (by decide)
theorem ic_neg {n : Int} (h : n < 0) : S [45] ++ S (ic (-n)) = S (ic n) := by
  rw [S_app]
  congr 2
  unfold ic
  rw [if_pos h, if_neg (by omega), Int.natAbs_neg]
  rfl
theorem ic_small {n : Int} (h : n.natAbs < 10 ^ 500) : (ic n).length ≤ 501 := ic_len (by decide) h
def spWI (nn : Bool) : Sp := fun vs H Q _ => ∃ n : Int, vs = [.int n] ∧ n.natAbs < 10 ^ 500 ∧ (nn = true → 0 ≤ n) ∧ ∀ H', Same H H' → Q (.str (S (ic n))) H'
abbrev s_write_integer : Stmt := topS 12
abbrev N_write_integer : List Str := ["n", "base", "found"]
theorem sc_write_integer : FnScope N_write_integer ["n"] (defScope s_write_integer) := ⟨rfl, rfl, rfl, by decide +kernel, rfl, by decide +kernel, by decide +kernel⟩
theorem step_write_integer {f fb : Addr} {fd fdb : FuncData} {k : Nat} {spG : Sp} {nn : Bool} (D_write_integer : DefAt K mg "write_integer" s_write_integer ["n"] f fd) (D_piece_base : DefAt K mg "piece_base" s_piece_base [] fb fdb)
    {tp : Tok} (c_PIECE : mg "PIECE" = some (.int 1024 tp)) (z_str : mg "str" = none) (G_piece_base : FnOk P w K mg base CX0 1 fb fdb [] spBase) (hk : 1 ≤ k) (G_write_integer : FnOk P w K mg base CX0 k f fd ["n"] spG) (hG : nn = false → spG = spWI true) :
    FnOk P w K mg base CX0 (k + 1) f fd ["n"] (spWI nn) := by
  refine D_write_integer.F.ok sc_write_integer (fun vs H Q E h => ?_) (fun cdv A outer s H vs Q E hr h => ?_)
  · obtain ⟨n, rfl, _⟩ := h
    rfl
  obtain ⟨n, rfl, hn, hnn, q⟩ := h
  refine ⟨_, (pss_cons (ps_if (pt_cmpR op_lt (pv 0) pe_int (nomark _)) (pss_one (ps_ret (pe_op op_add_str pe_str (pe_call G_write_integer (hr.mono (by first | decide | omega)) (by rfl) D_write_integer.m D_write_integer.F.kp D_write_integer.b .nil pass0 (pa_cons (pe_un un_neg (pv 0)) pa_nil)))))
        pss_nil)
      (pss_cons (ps_set (i := 1) sc_write_integer.nd rfl (Or.inl rfl) (pe_call0 G_piece_base (hr.mono (by first | decide | omega)) (by rfl) D_piece_base.m D_piece_base.F.kp D_piece_base.b .nil pass0))
      (pss_cons (ps_set (i := 2) sc_write_integer.nd rfl (Or.inl rfl) (pe_lst pa_nil))
      (pss_cons (ps_while PassesOwn.never (pt_cmpR op_ge (pv 0) (pv 1) (nomark _)) (pss_cons (ps_expr (pe_bm PySem.F.plainAttrs_list PySem.F.slot_list_append PySem.F.type_list_append mt_append (pv 2) (pa_cons (pe_bm PySem.F.plainAttrs_str PySem.F.slot_str_rjust PySem.F.type_str_rjust mt_rjustF (pe_callTy call_str_int (by rfl) z_str (by decide +kernel) (pa_cons (pe_op op_mod (pv 0) (pv 1)) pa_nil)) (pa_cons (pe_glob (v := .int 1024) (by rfl) c_PIECE ⟨_, rfl⟩) (pa_cons pe_str pa_nil))) pa_nil)))
        (pss_one (ps_set (i := 0) sc_write_integer.nd rfl (Or.inl rfl) (pe_op op_fdivW (pv 0) (pv 1))))))
      (pss_cons (ps_expr (pe_bm PySem.F.plainAttrs_list PySem.F.slot_list_append PySem.F.type_list_append mt_append (pv 2) (pa_cons (pe_callTy call_str_int (by rfl) z_str (by decide +kernel) (pa_cons (pv 0) pa_nil)) pa_nil)))
      (pss_one (ps_ret (pe_join pe_str (pe_revL (pv 2)))))))))), ?_⟩
  -- if n < 0
  refine ⟨_, rfl, _, _, rfl, rfl, _, rfl, ite2 (fun e => ?_) (fun e => ?_)⟩
  · have e' : n < 0 := of_decide_eq_true e
    have e2 : nn = false := by
      cases nn with
      | false => rfl
      | true => exact absurd (hnn rfl) (by omega)
    have eG := hG e2
    subst eG
    refine ⟨_, rfl, _, rfl, -n, rfl, by rw [Int.natAbs_neg]; exact hn, fun _ => by omega, fun H' sm => ?_⟩
    have := ic_small (n := -n) (by rw [Int.natAbs_neg]; exact hn)
    refine ⟨_, _, rfl, rfl, ?_, ?_⟩
    · show 1 + (ic (-n)).length ≤ sizeLine
      rw [sizeLine_eq]; omega
    · have := q H' sm
      rw [← ic_neg e'] at this
      exact this
  · have e' : ¬ n < 0 := of_decide_eq_false (Bool.eq_false_iff.mpr e)
    -- base = piece_base(); found = []
    refine ⟨rfl, ?_⟩
    refine ⟨Nat.zero_le _, fun p np => ?_⟩
    -- while n >= base
    refine ⟨fun _ σ' H' => σ' = [some (.int n), some (.int ((10 ^ 1024 : Nat) : Int)), some (.ref p)] ∧ H' = upd H p (.lst []), ⟨0, rfl, rfl⟩, fun m σ' H' hw => ?_⟩
    obtain ⟨rfl, rfl⟩ := hw
    refine ⟨_, rfl, _, rfl, _, _, rfl, rfl, _, rfl, ite2 (fun e3 => ?_) (fun e3 => ?_)⟩
    · have e4 : ((10 ^ 1024 : Nat) : Int) ≤ n := of_decide_eq_true e3
      have e5 := pow_le_base
      generalize (10 : Nat) ^ 1024 = b at e4 e5
      generalize (10 : Nat) ^ 500 = a at hn e5
      omega
    -- found.append(str(n))
    refine ⟨_, rfl, .inl ⟨rfl, _, SqL.of upd_same⟩, _, rfl, _, rfl, log_ok hn, _, _, _, rfl, rfl, upd_same, by show 0 < sizeLine; decide, ?_⟩
    -- return ''.join(found[::-1])
    refine ⟨⟨_, rfl⟩, _, rfl, _, _, rfl, SqL.of upd_same, fun p2 np2 => ⟨S [], p2, [S (ic n)], rfl, rfl, .inl (SqL.of ?_), ?_, ?_⟩⟩
    · rw [upd_same]
      show some (HO.lst [V.str (Str.ofString (toString n))]) = _
      rw [str_int]
      rfl
    · have := ic_small hn
      show (ic n).length + 0 + 1 * 0 ≤ 16777216
      omega
    · rw [show Txt.join (S []) [S (ic n)] = S (ic n) from join_txt [] [ic n]]
      exact q _ (same_new (same_mut (same_new (Same.refl H) np) np) np2)
theorem ok_write_integer {f fb : Addr} {fd fdb : FuncData} (D_write_integer : DefAt K mg "write_integer" s_write_integer ["n"] f fd) (D_piece_base : DefAt K mg "piece_base" s_piece_base [] fb fdb)
    {tp : Tok} (c_PIECE : mg "PIECE" = some (.int 1024 tp)) (z_str : mg "str" = none) (G_piece_base : FnOk P w K mg base CX0 1 fb fdb [] spBase) : FnOk P w K mg base CX0 3 f fd ["n"] (spWI false) :=
  step_write_integer D_write_integer D_piece_base c_PIECE z_str G_piece_base (by decide) (step_write_integer (nn := true) (k := 1) (spG := fun _ _ _ _ => False) D_write_integer D_piece_base c_PIECE z_str G_piece_base (by decide)
    ((none_left (b := true) fun _ _ _ _ h => h).mono (Nat.zero_le _)) (fun h => by cases h)) (fun _ => rfl)
end
end FL

set_option Elab.async false
set_option linter.all false
set_option maxRecDepth 100000
set_option maxHeartbeats 1000000
namespace FL
open PySem PySem.Spec PyProof.Rows L2 PySem.NumText
section
variable {P : Program} {w : World} {K : PySem.W.Frag} {mg : Str → Option Value} {base : Heap} {C fI : Addr}
/-- an error of the class at C with line 1 leaves, old objects stand -/
def Bad (C : Addr) (H : Hp) (E : XK) : Prop := ∀ d H', Same H H' → H' d = some (.xd [("line", .int 1)]) → E (.ref C) (some d) H'
theorem Bad.of {H H' : Hp} {E : XK} (h : Bad C H E) (s : Same H H') : Bad C H' E := fun d H2 s2 e => h d H2 (s.trans s2) e
def spFail (C : Addr) : Sp := fun vs H Q E => vs = [] ∧ Bad C H E
abbrev s_fail : Stmt := topS 13
abbrev N_fail : List Str := []
theorem sc_fail : FnScope N_fail [] (defScope s_fail) := ⟨rfl, rfl, rfl, by decide +kernel, rfl, by decide +kernel, by decide +kernel⟩
theorem ok_fail {f : Addr} {fd : FuncData} (D : DefAt K mg "fail" s_fail [] f fd) (TX : PySem.TeX.TeTxt P K mg C fI) : FnOk P w K mg base (L2.CX P w) 3 f fd [] (spFail C) := by
  refine D.F.okX sc_fail (fun vs H Q E h => ?_) (fun cdv A outer s H vs Q E hr h => ?_)
  · obtain ⟨rfl, _⟩ := h
    rfl
  obtain ⟨rfl, b⟩ := h
  refine ⟨_, (pss_one (ps_raiseTe rfl TX hr (takes_of rfl rfl rfl rfl) (by exact (pa_cons pe_int pa_nil)))), ?_⟩
  refine ⟨_, rfl, fun d nd => b d _ (same_new (Same.refl H) nd) upd_same⟩

theorem digits_in {c : Nat} : decide (c ∈ (Str.ofString "0123456789").cps.toList) = isDig c := by
  rw [show (Str.ofString "0123456789").cps.toList = [48, 49, 50, 51, 52, 53, 54, 55, 56, 57] by decide +kernel]
  rw [Bool.eq_iff_iff, decide_eq_true_eq, isDig_iff]
  simp only [List.mem_cons, List.not_mem_nil, or_false]
  omega

theorem via_no {H : Hp} {T : (Bool → Hp → Prop) → Prop} {q : Bool → Hp → Prop} (h : ∀ q : Bool → Hp → Prop, q false H → T q) (r : q false H) : T q := h q r
theorem via_yes {H : Hp} {T : (Bool → Hp → Prop) → Prop} {q : Bool → Hp → Prop} (h : ∀ q : Bool → Hp → Prop, q true H → T q) (r : q true H) : T q := h q r
theorem S_empty {t : List Nat} (h : V.str (S t) = V.str (Str.ofString "")) : t = [] := by
  injection h with h
  rw [show Str.ofString "" = S [] from rfl] at h
  exact S_inj h
theorem at_head {c : Nat} {t : List Nat} : atI (S (c :: t)).cps.toList (0 : Int) = some c := atI_nat (j := 0) (show (c :: t)[0]? = some c from rfl)
theorem one_is {c k : Nat} (h : V.str ⟨#[c]⟩ = V.str (S [k])) : c = k := by
  injection h with h
  injection h with h
  simpa using h
def spRN (C : Addr) : Sp := fun vs H Q E => ∃ t : List Nat, vs = [.str (S t)] ∧ t.length ≤ 500 ∧ (∀ n : Nat, rNat t = some n → Q (.int (n : Int)) H) ∧ (rNat t = none → Bad C H E)
abbrev s_read_natural : Stmt := topS 14
abbrev N_read_natural : List Str := ["text", "character", "found", "base", "at"]
theorem sc_read_natural : FnScope N_read_natural ["text"] (defScope s_read_natural) := ⟨rfl, rfl, rfl, by decide +kernel, rfl, by decide +kernel, by decide +kernel⟩
theorem ok_read_natural {f ff fb : Addr} {fd fdf fdb : FuncData} (D_read_natural : DefAt K mg "read_natural" s_read_natural ["text"] f fd) (D_fail : DefAt K mg "fail" s_fail [] ff fdf) (D_piece_base : DefAt K mg "piece_base" s_piece_base [] fb fdb)
    {tp tm td : Tok} (c_PIECE : mg "PIECE" = some (.int 1024 tp)) (c_MOST_DIGITS : mg "MOST_DIGITS" = some (.int 100000 tm)) (c_DIGITS : mg "DIGITS" = some (.str (Str.ofString "0123456789") td)) (z_len : mg "len" = none) (z_int : mg "int" = none)
    (G_piece_base : FnOk P w K mg base CX0 1 fb fdb [] spBase) (G_fail : FnOk P w K mg base (L2.CX P w) 3 ff fdf [] (spFail C)) : FnOk P w K mg base (L2.CX P w) 4 f fd ["text"] (spRN C) := by
  refine D_read_natural.F.okX sc_read_natural (fun vs H Q E h => ?_) (fun cdv A outer s H vs Q E hr h => ?_)
  · obtain ⟨t, rfl, _⟩ := h
    rfl
  obtain ⟨t, rfl, ht, q, b⟩ := h
  refine ⟨_, (pss_cons (ps_if (PW.pt (pw_or (pt_cmpR op_eq (pv 0) pe_str (nomark _)) (pw_or (pt_cmpR op_gt (pe_callB call_len (by rfl) z_len (by decide +kernel) (pa_cons (pv 0) pa_nil)) (pe_glob (v := .int 100000) (by rfl) c_MOST_DIGITS ⟨_, rfl⟩) (nomark _)) (pw_or1 (PW.pt (pw_and (pt_cmpR op_gt (pe_callB call_len (by rfl) z_len (by decide +kernel) (pa_cons (pv 0) pa_nil)) pe_int (nomark _)) (pw_and1 (pt_cmpR op_eq (pe_ix ix_str (pv 0) pe_int (fun _ _ => rfl)) pe_str (nomark _))))))))) (pss_one (ps_expr (pe_call0 G_fail (hr.mono (by first | decide | omega)) (by rfl) D_fail.m D_fail.F.kp D_fail.b .nil (passes_call (takes_of rfl rfl rfl rfl) (fun _ _ _ _ h => h)))))
        pss_nil)
      (pss_cons (ps_for (passes_of rfl) rfl (pi_str (pv 0)) (pg_name (i := 1) sc_read_natural.nd rfl (Or.inl rfl))
        (pss_one (ps_if (pt_cmpR op_notIn_sign (pv 1) (pe_glob (v := .str "0123456789") (by rfl) c_DIGITS ⟨_, rfl⟩) rfl) (pss_one (ps_expr (pe_call0 G_fail (hr.mono (by first | decide | omega)) (by rfl) D_fail.m D_fail.F.kp D_fail.b .nil (passes_call (takes_of rfl rfl rfl rfl) (fun _ _ _ _ h => h)))))
          pss_nil)))
      (pss_cons (ps_set (i := 2) sc_read_natural.nd rfl (Or.inl rfl) pe_int)
      (pss_cons (ps_set (i := 3) sc_read_natural.nd rfl (Or.inl rfl) (pe_call0 G_piece_base (hr.mono (by first | decide | omega)) (by rfl) D_piece_base.m D_piece_base.F.kp D_piece_base.b .nil pass0))
      (pss_cons (ps_set (i := 4) sc_read_natural.nd rfl (Or.inl rfl) (pe_op op_mod (pe_callB call_len (by rfl) z_len (by decide +kernel) (pa_cons (pv 0) pa_nil)) (pe_glob (v := .int 1024) (by rfl) c_PIECE ⟨_, rfl⟩)))
      (C8.pss_cut (ps_if (pt_cmpR op_gt (pv 4) pe_int (nomark _)) (pss_one (ps_set (i := 2) sc_read_natural.nd rfl (Or.inl rfl) (pe_callTy call_int_str (by rfl) z_int (by decide +kernel) (pa_cons (pe_slice sl_str (pv 0) po_none (po_some (pv 4))) pa_nil))))
        pss_nil)
      (pss_cons (ps_while (passes_of rfl) (pt_cmpR op_lt (pv 4) (pe_callB call_len (by rfl) z_len (by decide +kernel) (pa_cons (pv 0) pa_nil)) (nomark _)) (pss_cons (ps_set (i := 2) sc_read_natural.nd rfl (Or.inl rfl) (pe_op op_add (pe_op op_mulW (pv 2) (pv 3)) (pe_callTy call_int_str (by rfl) z_int (by decide +kernel) (pa_cons (pe_slice sl_str (pv 0) (po_some (pv 4)) (po_some (pe_op op_add (pv 4) (pe_glob (v := .int 1024) (by rfl) c_PIECE ⟨_, rfl⟩)))) pa_nil))))
        (pss_one (ps_aug (i := 4) sc_read_natural.nd rfl (Or.inl rfl) (pe_glob (v := .int 1024) (by rfl) c_PIECE ⟨_, rfl⟩) ip_add))))
      (pss_one (ps_ret (pv 2)))))))))), ?_⟩
  have hlen : t.length ≤ sizeLine := by rw [sizeLine_eq]; omega
  -- the for and what follows
  refine ⟨_, rfl, rfl, _, rfl, ite2 (fun e => ite2 (fun _ => ?_) (fun e2 => absurd rfl e2)) (fun e => ?_)⟩
  · exact ⟨rfl, b (by rw [S_empty (of_decide_eq_true e)]; rfl)⟩
  have e0 : t ≠ [] := fun z => e (by rw [z]; rfl)
  refine ⟨_, rfl, _, _, rfl, ⟨hlen, rfl⟩, _, _, rfl, rfl, _, rfl, ite2 (fun e1 => absurd (of_decide_eq_true e1) (by show ¬ ((t.length : Int) > 100000); omega)) (fun e1 => ?_)⟩
  by_cases h0 : 1 < t.length ∧ t.head? = some 48
  · obtain ⟨h1, h2⟩ := h0
    refine via_yes (H := H) (T := fun q => tAnd _ _ _ _ q) (fun q r => ?_) ?_
    · refine ⟨_, rfl, _, _, rfl, ⟨hlen, rfl⟩, _, _, rfl, rfl, _, rfl, ite2 (fun _ => ?_) (fun e => absurd (decide_eq_true (show (1 : Int) < (t.length : Int) by omega)) e)⟩
      obtain ⟨c, t', rfl⟩ : ∃ c t', t = c :: t' := by
        cases t with
        | nil => cases h2
        | cons c t' => exact ⟨c, t', rfl⟩
      have : c = 48 := by simpa using h2
      subst this
      exact ⟨_, rfl, _, 0, 48, rfl, rfl, hlen, at_head, rfl, _, rfl, r⟩
    · refine ite2 (fun _ => ⟨rfl, b (by unfold rNat; rw [if_pos (.inr (.inl ⟨h1, h2⟩))])⟩) (fun e => absurd rfl e)
  refine via_no (H := H) (T := fun q => tAnd _ _ _ _ q) (fun q r => ?_) ?_
  · refine ⟨_, rfl, _, _, rfl, ⟨hlen, rfl⟩, _, _, rfl, rfl, _, rfl, ite2 (fun e => ?_) (fun _ => r)⟩
    have h1 : 1 < (t.length : Int) := of_decide_eq_true e
    obtain ⟨c, t', rfl⟩ : ∃ c t', t = c :: t' := by
      cases t with
      | nil => exact absurd rfl e0
      | cons c t' => exact ⟨c, t', rfl⟩
    refine ⟨_, rfl, _, 0, c, rfl, rfl, hlen, at_head, rfl, _, rfl, ?_⟩
    have : decide (V.str ⟨#[c]⟩ = V.str (Str.ofString "0")) = false := by
      refine decide_eq_false fun z => h0 ⟨by omega, ?_⟩
      rw [one_is (k := 48) z]; rfl
    rw [this]
    exact r
  refine ite2 (fun e => nomatch e) (fun _ => ?_)
  -- for character in text
  refine ⟨_, rfl, _, rfl, for_txt (fun i σ H' => (∃ v, σ = [some (.str (S t)), v, none, none, none]) ∧ H' = H ∧ ∀ c ∈ t.take i, isDig c = true) ⟨⟨_, rfl⟩, rfl, by simp⟩ ?_ ?_⟩
  · rintro i c σ H' hc ⟨⟨v, rfl⟩, rfl, hd⟩
    refine ⟨_, rfl, c, _, rfl, rfl, _, rfl, ite2 (fun e => ?_) (fun e => ?_)⟩
    · rw [digits_in] at e
      refine ⟨rfl, b ?_⟩
      have hm : c ∈ t := List.mem_of_getElem? (show t[i]? = some c by simpa using hc)
      have hz : ¬ t.all isDig = true := fun z => by
        have e2 := List.all_eq_true.mp z c hm
        rw [e2] at e
        cases e
      unfold rNat
      rw [if_pos (.inr (.inr hz))]
    · rw [digits_in] at e
      refine ⟨⟨_, rfl⟩, rfl, fun x hx => ?_⟩
      rw [List.take_succ, show t[i]? = some c by simpa using hc] at hx
      rcases List.mem_append.mp hx with hx | hx
      · exact hd x hx
      · have : x = c := by simpa using hx
        subst this
        cases q : isDig x with
        | true => rfl
        | false => rw [q] at e; exact absurd rfl e
  rintro σ H' ⟨⟨v, rfl⟩, e, hd⟩
  obtain rfl := e.symm
  have hall : AllDigits t := all_digits.mp (List.all_eq_true.mpr fun c hc => hd c (by show c ∈ t.take t.length; rw [List.take_length]; exact hc))
  have hn : rNat t = some (digitsVal t) := by
    unfold rNat
    rw [if_neg]
    rintro (h | h | h)
    · exact e0 h
    · exact h0 h
    · exact h (all_digits.mpr hall)
  have hpos : 0 < t.length := List.length_pos_iff.mpr e0
  -- found = 0; base = piece_base(); at = len(text) % PIECE
  refine ⟨rfl, _, rfl, _, _, rfl, ⟨hlen, rfl⟩, _, _, rfl, rfl, (show (0 : Int) < 1024 by decide), ?_⟩
  dsimp only [gName, List.set]
  rw [show ((S t).length : Int) % 1024 = (t.length : Int) by show (t.length : Int) % 1024 = _; omega]
  -- if at > 0
  refine ⟨fun σ' H' => σ' = [some (.str (S t)), v, some (.int (digitsVal t : Nat)), some (.int ((10 ^ 1024 : Nat) : Int)), some (.int (t.length : Int))] ∧ H' = H, ?_, ?_⟩
  · refine ⟨_, rfl, _, _, rfl, rfl, _, rfl, ite2 (fun e => ?_) (fun e => absurd (decide_eq_true (show (0 : Int) < (t.length : Int) by omega)) e)⟩
    refine ⟨_, rfl, _, rfl, _, rfl, _, rfl, hlen, ?_⟩
    rw [cut_to, List.take_length]
    refine ⟨_, _, rfl, SX.int_S (by have := all_digits.mpr hall; exact this) e0 (by omega), by show t.length ≤ 640; omega, rfl, rfl⟩
  · rintro σ' H' ⟨rfl, e⟩
    obtain rfl := e.symm
    refine ⟨fun _ σ' H' => σ' = [some (.str (S t)), v, some (.int (digitsVal t : Nat)), some (.int ((10 ^ 1024 : Nat) : Int)), some (.int (t.length : Int))] ∧ H' = H, ⟨0, rfl, rfl⟩, fun m σ' H' hw => ?_⟩
    obtain ⟨rfl, rfl⟩ := hw
    refine ⟨_, rfl, _, rfl, _, _, rfl, ⟨hlen, rfl⟩, _, _, rfl, rfl, _, rfl, ite2 (fun e3 => ?_) (fun e3 => ?_)⟩
    · have : (t.length : Int) < (t.length : Int) := of_decide_eq_true e3
      omega
    · exact ⟨_, rfl, q _ hn⟩
end
end FL

set_option Elab.async false
set_option linter.all false
set_option maxRecDepth 10000
set_option maxHeartbeats 1000000
/-! #### the writer's stack -/
namespace FL
open PySem PySem.NumText
mutual
def sz : PyData → Nat
  | .tuple ds => 2 + szs ds
  | .none => 1
  | .bool _ => 1
  | .int _ => 1
  | .str _ => 1
  | .list _ => 1
  | .dict _ => 1
def szs : List PyData → Nat
  | [] => 0
  | d :: ds => sz d + szs ds
end
theorem sz_pos (d : PyData) : 1 ≤ sz d := by
  cases d <;> simp [sz] <;> omega
theorem jn_len' : ∀ ds : List PyData, ((wrs ds).flatten).length ≤ (jn [32] (wrs ds)).length
  | [] => Nat.le_refl _
  | [d] => by simp [wrs, jn]
  | d :: e :: ds => by
    have := jn_len' (e :: ds)
    show ((wr d :: wrs (e :: ds)).flatten).length ≤ (wr d ++ [32] ++ jn [32] (wrs (e :: ds))).length
    rw [List.flatten_cons, List.length_append, List.length_append, List.length_append]
    omega
mutual
theorem sz_le {k : Nat} : ∀ d : PyData, Cl k d → sz d ≤ (wr d).length
  | .none, _ => Nat.le_refl _
  | .bool true, _ => Nat.le_refl _
  | .bool false, _ => Nat.le_refl _
  | .int i, _ => List.length_pos_iff.mpr (ic_ne i).1
  | .str x, _ => by
    show 1 ≤ (34 :: x.cps.toList ++ [34]).length
    simp
  | .tuple ds, h => by
    have h1 := szs_le ds h
    have h2 := jn_len' ds
    show 2 + szs ds ≤ (40 :: jn [32] (wrs ds) ++ [41]).length
    simp only [List.length_append, List.length_cons, List.length_nil]
    omega
  | .list _, h => h.elim
  | .dict _, h => h.elim
theorem szs_le {k : Nat} : ∀ ds : List PyData, Cls k ds → szs ds ≤ ((wrs ds).flatten).length
  | [], _ => Nat.le_refl _
  | d :: ds, h => by
    have h1 := sz_le d h.1
    have h2 := szs_le ds h.2
    rw [szs, wrs, List.flatten_cons, List.length_append]
    omega
end
abbrev En := PyData × List Nat
def em (e : En) : List Nat := e.2 ++ (if e.2 = [41] then [] else wr e.1)
def ems (es : List En) : List Nat := (es.map em).flatten
def EnOk (e : En) : Prop := Cl 500 e.1 ∧ (e.2 = [] ∨ e.2 = [32] ∨ (e.2 = [41] ∧ e.1 = .bool false))
def wts : List En → Nat
  | [] => 0
  | e :: es => sz e.1 + wts es
theorem wts_len : ∀ es : List En, es.length ≤ wts es
  | [] => Nat.le_refl _
  | e :: es => by
    have := wts_len es
    have := sz_pos e.1
    rw [wts, List.length_cons]
    omega
theorem wts_app : ∀ a b : List En, wts (a ++ b) = wts a + wts b
  | [], b => by simp [wts]
  | e :: a, b => by
    rw [List.cons_append, wts, wts, wts_app a b]
    omega
/-- what a tuple's parts lay -/
def kids (tx : List Nat) : List PyData → List En
  | [] => []
  | d :: ds => (d, tx) :: kids [32] ds
theorem kids_wts : ∀ (tx : List Nat) (ds : List PyData), wts (kids tx ds) = szs ds
  | _, [] => rfl
  | tx, d :: ds => by rw [kids, wts, kids_wts, szs]
theorem kids_ok {tx : List Nat} (h : tx = [] ∨ tx = [32]) : ∀ {ds : List PyData}, Cls 500 ds → ∀ e ∈ kids tx ds, EnOk e
  | [], _, e, he => nomatch he
  | d :: ds, c, e, he => by
    rcases List.mem_cons.mp he with rfl | he
    · exact ⟨c.1, h.elim .inl fun h => .inr (.inl h)⟩
    · exact kids_ok (.inr rfl) c.2 e he
theorem ems_cons (e : En) (es : List En) : ems (e :: es) = em e ++ ems es := rfl
theorem ems_app (a b : List En) : ems (a ++ b) = ems a ++ ems b := by simp [ems]
theorem em_kid {d : PyData} {tx : List Nat} (h : tx ≠ [41]) : em (d, tx) = tx ++ wr d := by
  show tx ++ (if tx = [41] then [] else wr d) = _
  rw [if_neg h]
theorem ems_kids : ∀ (ds : List PyData), ems (kids [32] ds) = (match ds with | [] => [] | _ :: _ => 32 :: jn [32] (wrs ds))
  | [] => rfl
  | [d] => by
    show em (d, [32]) ++ [] = _
    rw [em_kid (by decide), List.append_nil]
    rfl
  | d :: e :: ds => by
    have h := ems_kids (e :: ds)
    show em (d, [32]) ++ ems (kids [32] (e :: ds)) = 32 :: (wr d ++ [32] ++ jn [32] (wrs (e :: ds)))
    rw [em_kid (by decide), h]
    simp
theorem ems_first : ∀ (ds : List PyData), ems (kids [] ds) = jn [32] (wrs ds)
  | [] => rfl
  | [d] => by
    show em (d, []) ++ [] = _
    rw [em_kid (by decide), List.append_nil]
    rfl
  | d :: e :: ds => by
    have h := ems_kids (e :: ds)
    show em (d, []) ++ ems (kids [32] (e :: ds)) = (wr d ++ [32] ++ jn [32] (wrs (e :: ds)))
    rw [em_kid (by decide), h]
    simp
theorem em_close : em (.bool false, [41]) = [41] := by decide
theorem ems_tup (ds : List PyData) (tx : List Nat) (h : tx ≠ [41]) (es : List En) : tx ++ [40] ++ ems (kids [] ds ++ (.bool false, [41]) :: es) = ems ((.tuple ds, tx) :: es) := by
  rw [ems_app, ems_first, ems_cons, ems_cons, em_close, em_kid h]
  show _ = tx ++ (40 :: jn [32] (wrs ds) ++ [41]) ++ ems es
  simp
/-- the parts laid so far, the last first -/
theorem kids_step {ds : List PyData} {i : Nat} {d : PyData} (hi : i < ds.length) (hd : ds[ds.length - 1 - i]? = some d) :
    kids (if ds.length - (i + 1) = 0 then [] else [32]) (ds.drop (ds.length - (i + 1))) = (d, if ds.length - (i + 1) = 0 then [] else [32]) :: kids (if ds.length - i = 0 then [] else [32]) (ds.drop (ds.length - i)) := by
  have e1 : ds.length - 1 - i = ds.length - (i + 1) := by omega
  rw [e1] at hd
  have lt : ds.length - (i + 1) < ds.length := by omega
  have e2 : ds[ds.length - (i + 1)] = d := by
    rw [List.getElem?_eq_getElem lt] at hd
    exact Option.some.inj hd
  rw [List.drop_eq_getElem_cons lt, e2, kids, if_neg (show ¬ ds.length - i = 0 by omega), show ds.length - (i + 1) + 1 = ds.length - i by omega]
end FL

set_option Elab.async false
set_option linter.all false
set_option maxRecDepth 100000
set_option maxHeartbeats 1000000
namespace FL
open PySem PySem.Spec PyProof.Rows L2 PySem.NumText
section
variable {P : Program} {w : World} {K : PySem.W.Frag} {mg : Str → Option Value} {base : Heap} {C fI : Addr}
def spRI (C : Addr) : Sp := fun vs H Q E => ∃ t : List Nat, vs = [.str (S t)] ∧ t.length ≤ 500 ∧ (∀ n : Int, rInt t = some n → Q (.int n) H) ∧ (rInt t = none → Bad C H E)
abbrev s_read_integer : Stmt := topS 15
abbrev N_read_integer : List Str := ["text", "n"]
theorem sc_read_integer : FnScope N_read_integer ["text"] (defScope s_read_integer) := ⟨rfl, rfl, rfl, by decide +kernel, rfl, by decide +kernel, by decide +kernel⟩
theorem ok_read_integer {f f1 ff : Addr} {fd fd1 fdf : FuncData} (D_read_integer : DefAt K mg "read_integer" s_read_integer ["text"] f fd) (D_read_natural : DefAt K mg "read_natural" s_read_natural ["text"] f1 fd1) (D_fail : DefAt K mg "fail" s_fail [] ff fdf)
    (G_read_natural : FnOk P w K mg base (L2.CX P w) 4 f1 fd1 ["text"] (spRN C)) (G_fail : FnOk P w K mg base (L2.CX P w) 3 ff fdf [] (spFail C)) : FnOk P w K mg base (L2.CX P w) 5 f fd ["text"] (spRI C) := by
  refine D_read_integer.F.okX sc_read_integer (fun vs H Q E h => ?_) (fun cdv A outer s H vs Q E hr h => ?_)
  · obtain ⟨t, rfl, _⟩ := h
    rfl
  obtain ⟨t, rfl, ht, q, b⟩ := h
  refine ⟨_, (pss_cons (ps_if (pt_val (pe_m1 PySem.F.slot_str_startswith PySem.F.type_str_startswith mt_startswith (pv 0) pe_str)) (pss_cons (ps_set (i := 1) sc_read_integer.nd rfl (Or.inl rfl) (pe_un un_neg (pe_callS G_read_natural (hr.mono (by first | decide | omega)) (by rfl) D_read_natural.m D_read_natural.F.kp D_read_natural.b (fun q => passAt (takes_of rfl rfl rfl rfl) q) (pa_cons (pe_slice sl_str (pv 0) (po_some pe_int) po_none) pa_nil))))
        (pss_cons (ps_if (pt_cmpR op_eq (pv 1) pe_int (nomark _)) (pss_one (ps_expr (pe_call0 G_fail (hr.mono (by first | decide | omega)) (by rfl) D_fail.m D_fail.F.kp D_fail.b .nil (passes_call (takes_of rfl rfl rfl rfl) (fun _ _ _ _ h => h)))))
          pss_nil)
        (pss_one (ps_ret (pv 1)))))
        pss_nil)
      (pss_one (ps_ret (pe_callS G_read_natural (hr.mono (by first | decide | omega)) (by rfl) D_read_natural.m D_read_natural.F.kp D_read_natural.b (fun q => passAt (takes_of rfl rfl rfl rfl) q) (pa_cons (pv 0) pa_nil))))), ?_⟩
  refine ⟨_, rfl, ⟨_, rfl⟩, S t, S [45], rfl, rfl, _, rfl, ite2 (fun e => ?_) (fun e => ?_)⟩
  · rw [starts_minus] at e
    have e' := of_decide_eq_true e
    refine ⟨_, rfl, _, rfl, _, rfl, by show t.length ≤ sizeLine; rw [sizeLine_eq]; omega, ?_⟩
    rw [show cutS (S t) (some 1) none = S t.tail by rw [show (1 : Int) = ((1 : Nat) : Int) from rfl, cut_from, List.drop_one]]
    refine ⟨t.tail, rfl, by rw [List.length_tail]; omega, fun n hn => ?_, fun hn => b (by unfold rInt; rw [if_pos e', hn])⟩
    refine ⟨_, rfl, _, rfl, rfl, _, rfl, ite2 (fun e2 => ?_) (fun e2 => ?_)⟩
    · have h0 : -(n : Int) = 0 := by
        have := of_decide_eq_true e2
        injection this
      refine ⟨rfl, b ?_⟩
      unfold rInt
      rw [if_pos e', hn]
      show (if n = 0 then none else some (-(n : Int))) = none
      rw [if_pos (by omega)]
    · refine ⟨_, rfl, q _ ?_⟩
      unfold rInt
      rw [if_pos e', hn]
      show (if n = 0 then none else some (-(n : Int))) = _
      rw [if_neg]
      rintro rfl
      exact e2 rfl
  · rw [starts_minus] at e
    have e' : ¬ t.head? = some 45 := of_decide_eq_false (Bool.eq_false_iff.mpr e)
    refine ⟨_, rfl, t, rfl, ht, fun n hn => q _ (by unfold rInt; rw [if_neg e', hn]), fun hn => b (by unfold rInt; rw [if_neg e', hn])⟩

theorem word_is {t : List Nat} {k : Nat} (h : V.str (S t) = V.str (S [k])) : t = [k] := by
  injection h with h
  exact S_inj h
def spRW (C : Addr) (K : PySem.W.Frag) : Sp := fun vs H Q E => ∃ t : List Nat, vs = [.str (S t)] ∧ t.length ≤ 500 ∧ (∀ d v, rWord t = some d → Rp K H d v → Q v H) ∧ (rWord t = none → Bad C H E)
abbrev s_read_word : Stmt := topS 18
abbrev N_read_word : List Str := ["word"]
theorem sc_read_word : FnScope N_read_word ["word"] (defScope s_read_word) := ⟨rfl, rfl, rfl, by decide +kernel, rfl, by decide +kernel, by decide +kernel⟩
theorem ok_read_word {f f1 : Addr} {fd fd1 : FuncData} (D_read_word : DefAt K mg "read_word" s_read_word ["word"] f fd) (D_read_integer : DefAt K mg "read_integer" s_read_integer ["text"] f1 fd1)
    (G_read_integer : FnOk P w K mg base (L2.CX P w) 5 f1 fd1 ["text"] (spRI C)) : FnOk P w K mg base (L2.CX P w) 6 f fd ["word"] (spRW C K) := by
  refine D_read_word.F.okX sc_read_word (fun vs H Q E h => ?_) (fun cdv A outer s H vs Q E hr h => ?_)
  · obtain ⟨t, rfl, _⟩ := h
    rfl
  obtain ⟨t, rfl, ht, q, b⟩ := h
  refine ⟨_, (pss_cons (ps_if (pt_cmpR op_eq (pv 0) pe_str (nomark _)) (pss_one (ps_ret pe_non))
        pss_nil)
      (pss_cons (ps_if (pt_cmpR op_eq (pv 0) pe_str (nomark _)) (pss_one (ps_ret pe_bl))
        pss_nil)
      (pss_cons (ps_if (pt_cmpR op_eq (pv 0) pe_str (nomark _)) (pss_one (ps_ret pe_bl))
        pss_nil)
      (pss_one (ps_ret (pe_callS G_read_integer (hr.mono (by first | decide | omega)) (by rfl) D_read_integer.m D_read_integer.F.kp D_read_integer.b (fun q => passAt (takes_of rfl rfl rfl rfl) q) (pa_cons (pv 0) pa_nil))))))), ?_⟩
  refine ⟨_, rfl, rfl, _, rfl, ite2 (fun e => ?_) (fun e => ?_)⟩
  · have e' := word_is (k := 45) (of_decide_eq_true e)
    exact q .none _ (by rw [e']; rfl) rfl
  have n1 : ¬ t = [45] := fun z => e (by rw [z]; rfl)
  refine ⟨_, rfl, rfl, _, rfl, ite2 (fun e => ?_) (fun e => ?_)⟩
  · have e' := word_is (k := 84) (of_decide_eq_true e)
    exact q (.bool true) _ (by rw [e']; rfl) rfl
  have n2 : ¬ t = [84] := fun z => e (by rw [z]; rfl)
  refine ⟨_, rfl, rfl, _, rfl, ite2 (fun e => ?_) (fun e => ?_)⟩
  · have e' := word_is (k := 70) (of_decide_eq_true e)
    exact q (.bool false) _ (by rw [e']; rfl) rfl
  have n3 : ¬ t = [70] := fun z => e (by rw [z]; rfl)
  have e : rWord t = (rInt t).map .int := by unfold rWord; rw [if_neg n1, if_neg n2, if_neg n3]
  refine ⟨_, rfl, t, rfl, ht, fun n hn => q (.int n) _ (by rw [e, hn]; rfl) rfl, fun hn => b (by rw [e, hn]; rfl)⟩

theorem seps_in {c : Nat} : decide (c ∈ (Str.ofString " ()\"").cps.toList) = isSep c := by
  rw [show (Str.ofString " ()\"").cps.toList = [32, 40, 41, 34] by decide +kernel]
  unfold isSep
  rw [Bool.eq_iff_iff, decide_eq_true_eq]
  simp [or_assoc]
theorem lets_in {c : Nat} : decide (c ∈ (Str.ofString "abcdefghijklmnopqrstuvwxyzABCDEFGHIJKLMNOPQRSTUVWXYZ ").cps.toList) = isLet c := by
  rw [show (Str.ofString "abcdefghijklmnopqrstuvwxyzABCDEFGHIJKLMNOPQRSTUVWXYZ ").cps.toList = (List.range 26).map (97 + ·) ++ (List.range 26).map (65 + ·) ++ [32] by decide +kernel]
  unfold isLet
  rw [Bool.eq_iff_iff, decide_eq_true_eq]
  simp only [List.mem_append, List.mem_map, List.mem_range, List.mem_singleton, Bool.or_eq_true, decide_eq_true_eq, beq_iff_eq]
  constructor
  · rintro ((⟨a, h, rfl⟩ | ⟨a, h, rfl⟩) | h)
    · exact .inl (.inl (by omega))
    · exact .inl (.inr (by omega))
    · exact .inr h
  · rintro ((h | h) | h)
    · exact .inl (.inl ⟨c - 97, by omega, by omega⟩)
    · exact .inl (.inr ⟨c - 65, by omega, by omega⟩)
    · exact .inr h
theorem at_code {t : List Nat} {j : Nat} (h : j < t.length) : atI (S t).cps.toList (j : Int) = some t[j] := atI_nat (show t[j]? = some t[j] from List.getElem?_eq_getElem h)

def spWE : Sp := fun vs H Q _ => ∃ (t : List Nat) (i : Nat), vs = [.str (S t), .int i] ∧ i ≤ t.length ∧ t.length ≤ sizeLine ∧ Q (.int ((i + hd (t.drop i) : Nat) : Int)) H
abbrev s_word_end : Stmt := topS 19
abbrev N_word_end : List Str := ["text", "at"]
theorem sc_word_end : FnScope N_word_end ["text", "at"] (defScope s_word_end) := ⟨rfl, rfl, rfl, by decide +kernel, rfl, by decide +kernel, by decide +kernel⟩
theorem ok_word_end {f : Addr} {fd : FuncData} (D_word_end : DefAt K mg "word_end" s_word_end ["text", "at"] f fd) (z_len : mg "len" = none) : FnOk P w K mg base CX0 1 f fd ["text", "at"] spWE := by
  refine D_word_end.F.ok sc_word_end (fun vs H Q E h => ?_) (fun cdv A outer s H vs Q E hr h => ?_)
  · obtain ⟨t, i, rfl, _⟩ := h
    rfl
  obtain ⟨t, i, rfl, hi, hlen, q⟩ := h
  refine ⟨_, (pss_cons (ps_while PassesOwn.never (PW.pt (pw_and (pt_cmpR op_lt (pv 1) (pe_callB call_len (by rfl) z_len (by decide +kernel) (pa_cons (pv 0) pa_nil)) (nomark _)) (pw_and1 (pt_cmpR op_notIn_sign (pe_ix ix_str (pv 0) (pv 1) (fun _ _ => rfl)) pe_str rfl)))) (pss_one (ps_aug (i := 1) sc_word_end.nd rfl (Or.inl rfl) pe_int ip_add)))
      (pss_one (ps_ret (pv 1)))), ?_⟩
  refine ⟨fun m σ' H' => ∃ j : Nat, σ' = [some (.str (S t)), some (.int (j : Int))] ∧ H' = H ∧ m = t.length - j ∧ j ≤ t.length ∧ j + hd (t.drop j) = i + hd (t.drop i), ⟨_, i, rfl, rfl, rfl, hi, rfl⟩, fun m σ' H' hw => ?_⟩
  obtain ⟨j, rfl, e, rfl, hj, hh⟩ := hw
  obtain rfl := e.symm
  refine ⟨_, rfl, _, rfl, _, _, rfl, ⟨hlen, rfl⟩, _, _, rfl, rfl, _, rfl, ite2 (fun e => ?_) (fun e => ?_)⟩
  · have e' : j < t.length := Int.ofNat_lt.mp (of_decide_eq_true e)
    have dj := List.drop_eq_getElem_cons e'
    refine ⟨_, rfl, _, rfl, _, _, _, rfl, rfl, hlen, at_code e', _, _, rfl, rfl, _, rfl, ite2 (fun e2 => ?_) (fun e2 => ?_)⟩
    · rw [seps_in] at e2
      refine ⟨fun σ' H' => ∃ m', m' < t.length - j ∧ ∃ j : Nat, σ' = [some (.str (S t)), some (.int (j : Int))] ∧ H' = H ∧ m' = t.length - j ∧ j ≤ t.length ∧ j + hd (t.drop j) = i + hd (t.drop i), fun _ _ h => h, ?_⟩
      refine ⟨_, rfl, _, _, rfl, rfl, _, by omega, j + 1, rfl, rfl, rfl, e', ?_⟩
      rw [dj, hd, if_neg (by intro z; rw [z] at e2; cases e2)] at hh
      omega
    · rw [seps_in] at e2
      refine ⟨_, rfl, ?_⟩
      rw [dj, hd, if_pos (by cases z : isSep t[j] with | true => rfl | false => rw [z] at e2; exact absurd rfl e2)] at hh
      rw [show ((j : Nat) : Int) = ((i + hd (t.drop i) : Nat) : Int) by omega]
      exact q
  · have e' : ¬ j < t.length := fun z => e (decide_eq_true (Int.ofNat_lt.mpr z))
    refine ite2 (fun e2 => nomatch e2) (fun _ => ⟨_, rfl, ?_⟩)
    rw [List.drop_of_length_le (by omega)] at hh
    rw [show ((j : Nat) : Int) = ((i + hd (t.drop i) : Nat) : Int) by have : hd [] = 0 := rfl; omega]
    exact q

def spSA (C : Addr) : Sp := fun vs H Q E => ∃ (t : List Nat) (i : Nat), vs = [.str (S t), .int i] ∧ i < t.length ∧ t.length ≤ sizeLine ∧
  (∀ w r', (t.drop (i + 1)).dropWhile isLet = 34 :: r' → (t.drop (i + 1)).takeWhile isLet = w → ∀ p, H p = none → Q (.ref p) (upd H p (.tup [.str (S w), .int ((i + w.length + 2 : Nat) : Int)]))) ∧
  ((∀ r', (t.drop (i + 1)).dropWhile isLet ≠ 34 :: r') → Bad C H E)
abbrev s_string_at : Stmt := topS 20
abbrev N_string_at : List Str := ["text", "at", "end"]
theorem sc_string_at : FnScope N_string_at ["text", "at"] (defScope s_string_at) := ⟨rfl, rfl, rfl, by decide +kernel, rfl, by decide +kernel, by decide +kernel⟩
theorem ok_string_at {f ff : Addr} {fd fdf : FuncData} (D_string_at : DefAt K mg "string_at" s_string_at ["text", "at"] f fd) (D_fail : DefAt K mg "fail" s_fail [] ff fdf) {tl : Tok} (c_LETTERS : mg "LETTERS" = some (.str (Str.ofString "abcdefghijklmnopqrstuvwxyzABCDEFGHIJKLMNOPQRSTUVWXYZ ") tl)) (z_len : mg "len" = none)
    (G_fail : FnOk P w K mg base (L2.CX P w) 3 ff fdf [] (spFail C)) : FnOk P w K mg base (L2.CX P w) 4 f fd ["text", "at"] (spSA C) := by
  refine D_string_at.F.okX sc_string_at (fun vs H Q E h => ?_) (fun cdv A outer s H vs Q E hr h => ?_)
  · obtain ⟨t, i, rfl, _⟩ := h
    rfl
  obtain ⟨t, i, rfl, hi, hlen, q, b⟩ := h
  refine ⟨_, (pss_cons (ps_set (i := 2) sc_string_at.nd rfl (Or.inl rfl) (pe_op op_add (pv 1) pe_int))
      (pss_cons (ps_while (passes_of rfl) (PW.pt (pw_and (pt_cmpR op_lt (pv 2) (pe_callB call_len (by rfl) z_len (by decide +kernel) (pa_cons (pv 0) pa_nil)) (nomark _)) (pw_and1 (pt_cmpR op_in_sign (pe_ix ix_str (pv 0) (pv 2) (fun _ _ => rfl)) (pe_glob (v := .str "abcdefghijklmnopqrstuvwxyzABCDEFGHIJKLMNOPQRSTUVWXYZ ") (by rfl) c_LETTERS ⟨_, rfl⟩) rfl)))) (pss_one (ps_aug (i := 2) sc_string_at.nd rfl (Or.inl rfl) pe_int ip_add)))
      (pss_cons (ps_if (pt_cmpR op_ne (pe_slice sl_str (pv 0) (po_some (pv 2)) (po_some (pe_op op_add (pv 2) pe_int))) pe_str (nomark _)) (pss_one (ps_expr (pe_call0 G_fail (hr.mono (by first | decide | omega)) (by rfl) D_fail.m D_fail.F.kp D_fail.b .nil (passes_call (takes_of rfl rfl rfl rfl) (fun _ _ _ _ h => h)))))
        pss_nil)
      (pss_one (ps_ret (pe_tup (pa_cons (pe_slice sl_str (pv 0) (po_some (pe_op op_add (pv 1) pe_int)) (po_some (pv 2))) (pa_cons (pe_op op_add (pv 2) pe_int) pa_nil)))))))), ?_⟩
  refine ⟨_, rfl, _, _, rfl, rfl, ?_⟩
  -- while end < len(text) and text[end] in LETTERS
  refine ⟨fun m σ' H' => ∃ k : Nat, σ' = [some (.str (S t)), some (.int (i : Int)), some (.int ((i + 1 + k : Nat) : Int))] ∧ H' = H ∧ m = t.length - (i + 1 + k) ∧ i + 1 + k ≤ t.length ∧ (∀ c ∈ (t.drop (i + 1)).take k, isLet c = true), ⟨_, 0, rfl, rfl, rfl, hi, by simp⟩, fun m σ' H' hw => ?_⟩
  obtain ⟨k, rfl, e, rfl, hj, hh⟩ := hw
  obtain rfl := e.symm
  -- where the run ends
  have stop : (∀ c r', t.drop (i + 1 + k) = c :: r' → isLet c = false) → (t.drop (i + 1)).takeWhile isLet = (t.drop (i + 1)).take k ∧ (t.drop (i + 1)).dropWhile isLet = t.drop (i + 1 + k) := by
    intro hn
    have e1 : t.drop (i + 1) = (t.drop (i + 1)).take k ++ t.drop (i + 1 + k) := by
      rw [show t.drop (i + 1 + k) = (t.drop (i + 1)).drop k by rw [List.drop_drop], List.take_append_drop]
    generalize (t.drop (i + 1)).take k = a at e1 hh
    generalize t.drop (i + 1 + k) = r at e1 hn
    rw [e1]
    clear e1
    induction a with
    | nil =>
      cases r with
      | nil => exact ⟨rfl, rfl⟩
      | cons c r => simp [List.takeWhile_cons, List.dropWhile_cons, hn c r rfl]
    | cons x a ih =>
      obtain ⟨h1, h2⟩ := ih fun c hc => hh c (List.mem_cons_of_mem _ hc)
      have hx := hh x (List.mem_cons_self ..)
      constructor
      · rw [List.cons_append, List.takeWhile_cons, if_pos hx, h1]
      · rw [List.cons_append, List.dropWhile_cons, if_pos hx, h2]
  by_cases go : ∃ c r', t.drop (i + 1 + k) = c :: r' ∧ isLet c = true
  · obtain ⟨c, r', e1, e2⟩ := go
    have lt : i + 1 + k < t.length := by
      have := congrArg List.length e1
      rw [List.length_drop, List.length_cons] at this
      omega
    have e3 : t[i + 1 + k] = c := by
      have := List.drop_eq_getElem_cons lt
      rw [e1] at this
      injection this with h1 _
      exact h1.symm
    refine ⟨_, rfl, _, rfl, _, _, rfl, ⟨hlen, rfl⟩, _, _, rfl, rfl, _, rfl, ite2 (fun _ => ?_) (fun e => absurd (decide_eq_true (Int.ofNat_lt.mpr lt)) e)⟩
    refine ⟨_, rfl, _, rfl, _, _, _, rfl, rfl, hlen, at_code lt, _, _, rfl, rfl, _, rfl, ite2 (fun _ => ?_) (fun e => absurd (by rw [lets_in, e3]; exact e2) e)⟩
    refine ⟨_, fun _ _ h => h, ?_⟩
    refine ⟨_, rfl, _, _, rfl, rfl, _, ?_, k + 1, rfl, rfl, rfl, lt, ?_⟩
    · show t.length - (i + 1 + (k + 1)) < t.length - (i + 1 + k)
      omega
    · intro x hx
      rw [List.take_succ] at hx
      rcases List.mem_append.mp hx with hx | hx
      · exact hh x hx
      · rw [List.getElem?_drop, List.getElem?_eq_getElem lt, e3] at hx
        have : x = c := by simpa using hx
        rw [this]; exact e2
  obtain ⟨h1, h2⟩ := stop fun c r' e1 => by
    cases z : isLet c with
    | false => rfl
    | true => exact absurd ⟨c, r', e1, z⟩ go
  refine via_no (H := H) (T := fun q => tAnd _ _ _ _ q) (fun q r => ?_) ?_
  · refine ⟨_, rfl, _, rfl, _, _, rfl, ⟨hlen, rfl⟩, _, _, rfl, rfl, _, rfl, ite2 (fun e => ?_) (fun _ => r)⟩
    have lt : i + 1 + k < t.length := Int.ofNat_lt.mp (of_decide_eq_true e)
    refine ⟨_, rfl, _, rfl, _, _, _, rfl, rfl, hlen, at_code lt, _, _, rfl, rfl, _, rfl, ?_⟩
    rw [lets_in]
    cases z : isLet t[i + 1 + k] with
    | false => exact r
    | true => exact absurd ⟨_, _, List.drop_eq_getElem_cons lt, z⟩ go
  refine ite2 (fun e => nomatch e) (fun _ => ?_)
  have kl : ((t.drop (i + 1)).take k).length = k := by
    rw [List.length_take, List.length_drop]
    omega
  -- if text[end:end + 1] != '"'
  refine ⟨_, rfl, _, rfl, _, rfl, _, rfl, _, _, rfl, rfl, _, rfl, _, rfl, hlen, ?_⟩
  rw [show (((i + 1 + k : Nat) : Int) + 1) = ((i + 1 + k + 1 : Nat) : Int) by omega, cut_in, show i + 1 + k + 1 - (i + 1 + k) = 1 by omega]
  refine ⟨rfl, _, rfl, ite2 (fun e => ?_) (fun e => ?_)⟩
  · refine ⟨rfl, b fun r' er => ?_⟩
    rw [h2] at er
    rw [er, show S (List.take 1 (34 :: r')) = Str.ofString "\"" from rfl, decide_eq_true rfl] at e
    cases e
  · obtain ⟨r', er⟩ : ∃ r', t.drop (i + 1 + k) = 34 :: r' := by
      cases z : t.drop (i + 1 + k) with
      | nil => rw [z] at e; exact absurd (by decide +kernel) e
      | cons c r' =>
        rw [z] at e
        have : V.str (S (List.take 1 (c :: r'))) = V.str (Str.ofString "\"") := by
          by_cases y : V.str (S (List.take 1 (c :: r'))) = V.str (Str.ofString "\"")
          · exact y
          · exact absurd (by rw [decide_eq_false y]; rfl) e
        have e9 := word_is (k := 34) this
        have : c = 34 := by simpa using e9
        rw [this]; exact ⟨r', rfl⟩
    refine ⟨_, rfl, _, rfl, _, _, rfl, rfl, _, rfl, _, rfl, _, rfl, _, rfl, hlen, ?_⟩
    rw [show ((i : Int) + 1) = ((i + 1 : Nat) : Int) by omega, cut_in, show i + 1 + k - (i + 1) = k by omega]
    refine ⟨_, rfl, _, _, rfl, rfl, by show 2 ≤ sizeLine; rw [sizeLine_eq]; decide, fun p np => ?_⟩
    have := q _ r' (by rw [h2, er]) h1 p np
    rw [kl, show i + k + 2 = i + 1 + k + 1 by omega] at this
    exact this
end
end FL

set_option Elab.async false
set_option linter.all false
set_option maxRecDepth 100000
set_option maxHeartbeats 1000000
namespace FL
open PySem PySem.Spec PyProof.Rows L2 PySem.NumText
def isStr : PyData → Bool
  | .str _ => true
  | _ => false
theorem ty_tup {K : PySem.W.Frag} {H : Hp} {a : Addr} {xs : List V} (h : SqT K H a xs) : TyX K H (.ref a) (.type "tuple") := by
  rcases h with (h | ⟨o, h⟩) | ⟨o, its, n, h1, h2, _⟩
  · exact .base (.tup h)
  · exact .fTuple h
  · exact .kTuple h1 h2
theorem Rp.ty {K : PySem.W.Frag} {H : Hp} {d : PyData} {v : V} (h : Rp K H d v) : ∃ n : String, TyX K H v (.type n) ∧ PySem.W.kitOne K (.type n) (.type "tuple") = some (isTup d) ∧ PySem.W.kitOne K (.type n) (.type "str") = some (isStr d) := by
  cases d with
  | none => rw [show v = .non from h]; exact ⟨_, .base .non, kit_ty (show kitB "NoneType" "tuple" = some false by decide +kernel), kit_ty (show kitB "NoneType" "str" = some false by decide +kernel)⟩
  | bool b => rw [show v = .bl b from h]; exact ⟨_, .base (.bl b), kit_ty (show kitB "bool" "tuple" = some false by decide +kernel), kit_ty (show kitB "bool" "str" = some false by decide +kernel)⟩
  | int i => rw [show v = .int i from h]; exact ⟨_, .base (.int i), kit_ty (show kitB "int" "tuple" = some false by decide +kernel), kit_ty (show kitB "int" "str" = some false by decide +kernel)⟩
  | str x => rw [show v = .str x from h]; exact ⟨_, .base (.str x), kit_ty (show kitB "str" "tuple" = some false by decide +kernel), kit_ty (show kitB "str" "str" = some true by decide +kernel)⟩
  | tuple ds =>
    obtain ⟨a, xs, rfl, hs, _⟩ := h
    exact ⟨_, ty_tup hs, kit_ty (show kitB "tuple" "tuple" = some true by decide +kernel), kit_ty (show kitB "tuple" "str" = some false by decide +kernel)⟩
  | list _ => exact h.elim
  | dict _ => exact h.elim
section
variable {P : Program} {w : World} {K : PySem.W.Frag} {mg : Str → Option Value} {base : Heap} {C fI : Addr}
def spWO (K : PySem.W.Frag) : Sp := fun vs H Q _ => ∃ d v, vs = [v] ∧ Rp K H d v ∧ isTup d = false ∧ Cl 500 d ∧ (wr d).length ≤ 1000000 ∧ ∀ H', Same H H' → Q (.str (S (wr d))) H'
abbrev s_word_of : Stmt := topS 16
abbrev N_word_of : List Str := ["value"]
theorem sc_word_of : FnScope N_word_of ["value"] (defScope s_word_of) := ⟨rfl, rfl, rfl, by decide +kernel, rfl, by decide +kernel, by decide +kernel⟩
theorem ok_word_of {f f1 : Addr} {fd fd1 : FuncData} (D_word_of : DefAt K mg "word_of" s_word_of ["value"] f fd) (D_write_integer : DefAt K mg "write_integer" s_write_integer ["n"] f1 fd1) (z_isinstance : mg "isinstance" = none) (z_str : mg "str" = none)
    (G_write_integer : FnOk P w K mg base CX0 3 f1 fd1 ["n"] (spWI false)) : FnOk P w K mg base CX0 4 f fd ["value"] (spWO K) := by
  refine D_word_of.F.ok sc_word_of (fun vs H Q E h => ?_) (fun cdv A outer s H vs Q E hr h => ?_)
  · obtain ⟨d, v, rfl, _⟩ := h
    rfl
  obtain ⟨d, v, rfl, r, nt, cl, hl, q⟩ := h
  refine ⟨_, (pss_cons (ps_if (pt_cmpR op_isN (pv 0) pe_non (nomark _)) (pss_one (ps_ret pe_str))
        pss_nil)
      (pss_cons (ps_if (pt_cmpR op_isB (pv 0) pe_bl (nomark _)) (pss_one (ps_ret pe_str))
        pss_nil)
      (pss_cons (ps_if (pt_cmpR op_isB (pv 0) pe_bl (nomark _)) (pss_one (ps_ret pe_str))
        pss_nil)
      (pss_cons (ps_if (pt_truth (pe_callB call_isi (by rfl) z_isinstance (by decide +kernel) (pa_cons (pv 0) (pa_cons (pe_bltn (v := .ty "str") (by rfl) z_str (by decide +kernel) rfl) pa_nil))) (by intro _; rfl)) (pss_one (ps_ret (pe_op op_add_str (pe_op op_add_str pe_str (pv 0)) pe_str)))
        pss_nil)
      (pss_one (ps_ret (pe_call G_write_integer (hr.mono (by first | decide | omega)) (by rfl) D_write_integer.m D_write_integer.F.kp D_write_integer.b .nil pass0 (pa_cons (pv 0) pa_nil)))))))), ?_⟩
  obtain ⟨tn, ty, _, ks⟩ := r.ty
  have sl := sizeLine_eq
  -- value is None, True, False
  refine ⟨_, rfl, rfl, _, rfl, ite2 (fun e => ?_) (fun e => ?_)⟩
  · have e' : v = .non := of_decide_eq_true e
    cases d with
    | none => exact q H (Same.refl H)
    | bool b => rw [show v = .bl b from r] at e'; cases e'
    | int b => rw [show v = .int b from r] at e'; cases e'
    | str b => rw [show v = .str b from r] at e'; cases e'
    | tuple ds => cases nt
    | list _ => exact r.elim
    | dict _ => exact r.elim
  refine ⟨_, rfl, _, rfl, _, rfl, ite2 (fun e1 => ?_) (fun e1 => ?_)⟩
  · have e' : v = .bl true := of_decide_eq_true e1
    cases d with
    | none => rw [show v = .non from r] at e'; cases e'
    | bool b =>
      rw [show v = .bl b from r] at e'
      injection e' with e'
      subst e'
      exact q H (Same.refl H)
    | int b => rw [show v = .int b from r] at e'; cases e'
    | str b => rw [show v = .str b from r] at e'; cases e'
    | tuple ds => cases nt
    | list _ => exact r.elim
    | dict _ => exact r.elim
  refine ⟨_, rfl, _, rfl, _, rfl, ite2 (fun e2 => ?_) (fun e2 => ?_)⟩
  · have e' : v = .bl false := of_decide_eq_true e2
    cases d with
    | none => rw [show v = .non from r] at e'; cases e'
    | bool b =>
      rw [show v = .bl b from r] at e'
      injection e' with e'
      subst e'
      exact q H (Same.refl H)
    | int b => rw [show v = .int b from r] at e'; cases e'
    | str b => rw [show v = .str b from r] at e'; cases e'
    | tuple ds => cases nt
    | list _ => exact r.elim
    | dict _ => exact r.elim
  -- isinstance(value, str)
  refine ⟨_, rfl, _, _, _, _, _, rfl, .ty "str", ty, ks, ?_⟩
  cases d with
  | none => rw [show v = .non from r] at e; exact absurd rfl e
  | bool b =>
    rw [show v = .bl b from r] at e1 e2
    cases b
    · exact absurd rfl e2
    · exact absurd rfl e1
  | int i =>
    rw [show v = .int i from r]
    refine ⟨_, rfl, ite2 (fun e => nomatch e) (fun _ => ?_)⟩
    exact ⟨_, rfl, i, rfl, cl, (fun h => nomatch h), q⟩
  | str x =>
    have hx : (wr (.str x)).length = x.cps.toList.length + 2 := by show (34 :: x.cps.toList ++ [34]).length = _; simp
    have hx2 : x.length = x.cps.toList.length := (Array.length_toList).symm
    rw [show v = .str x from r]
    refine ⟨_, rfl, ite2 (fun _ => ?_) (fun e => absurd rfl e)⟩
    refine ⟨_, rfl, _, _, rfl, rfl, ?_, _, _, rfl, rfl, ?_, ?_⟩
    · show 1 + x.length ≤ sizeLine
      omega
    · rw [show Str.ofString "\"" = S [34] from rfl, ← S_of x, S_app, S_len]
      show (34 :: x.cps.toList).length + 1 ≤ sizeLine
      rw [List.length_cons]
      omega
    · have t : S [34] ++ x ++ S [34] = S (wr (.str x)) := by
        rw [← S_of x, S_app, S_app, S_of]
        rfl
      have := q H (Same.refl H)
      rw [← t] at this
      exact this
  | tuple ds => cases nt
  | list _ => exact r.elim
  | dict _ => exact r.elim
end
end FL

set_option Elab.async false
set_option linter.all false
set_option maxRecDepth 100000
set_option maxHeartbeats 1000000
namespace FL
open PySem PySem.Spec PyProof.Rows L2 PySem.NumText
/-! ### the stack in the heap, the top first -/
def EntR (K : PySem.W.Frag) (H : Hp) (e : En) (x : V) : Prop := ∃ p v, x = .ref p ∧ SqT K H p [v, .str (S e.2)] ∧ Rp K H e.1 v
def EntAll (K : PySem.W.Frag) (H : Hp) : List En → List V → Prop
  | [], ys => ys = []
  | e :: es, ys => ∃ x r, ys = x :: r ∧ EntR K H e x ∧ EntAll K H es r
theorem EntR.tk {K : PySem.W.Frag} {H H' : Hp} (t : Tk K H H') {e : En} {x : V} (h : EntR K H e x) : EntR K H' e x := by
  obtain ⟨p, v, rfl, s, r⟩ := h
  exact ⟨p, v, rfl, t _ _ s, r.tk t⟩
theorem EntAll.tk {K : PySem.W.Frag} {H H' : Hp} (t : Tk K H H') : ∀ {es : List En} {ys : List V}, EntAll K H es ys → EntAll K H' es ys
  | [], _, h => h
  | e :: es, ys, h => by
    obtain ⟨x, r, rfl, hx, hr⟩ := h
    exact ⟨x, r, rfl, hx.tk t, EntAll.tk t hr⟩
theorem EntAll.len {K : PySem.W.Frag} {H : Hp} : ∀ {es : List En} {ys : List V}, EntAll K H es ys → ys.length = es.length
  | [], _, h => by rw [show _ = [] from h]; rfl
  | e :: es, ys, h => by
    obtain ⟨x, r, rfl, hx, hr⟩ := h
    rw [List.length_cons, List.length_cons, EntAll.len hr]
def Stk (K : PySem.W.Frag) (H : Hp) (l : Addr) (es : List En) : Prop := ∃ ys, H l = some (.lst ys.reverse) ∧ EntAll K H es ys
theorem rev_last {x : V} {r : List V} : (x :: r).reverse[(x :: r).reverse.length - 1]? = some x ∧ (x :: r).reverse.dropLast = r.reverse := by
  rw [List.reverse_cons]
  constructor
  · rw [List.length_append, List.length_singleton, Nat.add_sub_cancel, List.getElem?_append_right (Nat.le_refl _), Nat.sub_self]
    rfl
  · rw [List.dropLast_concat]
/-- what stands when the loop asks -/
structure WI (K : PySem.W.Frag) (H : Hp) (d : PyData) (f l : Addr) (fs : List (List Nat)) (es : List En) (H' : Hp) : Prop where
  hs : Same H H'
  hf : H' f = some (.lst ((fs.map S).map V.str))
  hl : Stk K H' l es
  ne : f ≠ l
  nf : H f = none
  nl : H l = none
theorem WI.say {K : PySem.W.Frag} {H H' : Hp} {d : PyData} {f l : Addr} {fs : List (List Nat)} {es : List En} (x : WI K H d f l fs es H') (t : List Nat) : WI K H d f l (fs ++ [t]) es (upd H' f (.lst ((fs.map S).map V.str ++ [.str (S t)]))) := by
  obtain ⟨ys, h1, h2⟩ := x.hl
  refine ⟨same_mut x.hs x.nf, ?_, ⟨ys, by rw [upd_ne (Ne.symm x.ne)]; exact h1, h2.tk (Tk.mut x.hf)⟩, x.ne, x.nf, x.nl⟩
  rw [upd_same, List.map_append, List.map_append]
  rfl
theorem WI.lay {K : PySem.W.Frag} {H H' : Hp} {d : PyData} {f l : Addr} {fs : List (List Nat)} {es : List En} (x : WI K H d f l fs es H') {p : Addr} {v : V} {e : PyData} {tx : List Nat} (np : H' p = none) (r : Rp K H' e v) :
    ∃ xs, upd H' p (.tup [v, .str (S tx)]) l = some (.lst xs) ∧ xs.length = es.length ∧ WI K H d f l fs ((e, tx) :: es) (upd (upd H' p (.tup [v, .str (S tx)])) l (.lst (xs ++ [.ref p]))) := by
  obtain ⟨ys, h1, h2⟩ := x.hl
  have npf : f ≠ p := ne_of_none x.hf np
  have npl : l ≠ p := ne_of_none h1 np
  have s1 : Same H' (upd H' p (.tup [v, .str (S tx)])) := same_new (Same.refl H') np
  have h3 : upd H' p (.tup [v, .str (S tx)]) l = some (.lst ys.reverse) := by rw [upd_ne npl]; exact h1
  have tk : Tk K H' (upd (upd H' p (.tup [v, .str (S tx)])) l (.lst (ys.reverse ++ [.ref p]))) := (Tk.same s1).trans (Tk.mut h3)
  refine ⟨ys.reverse, h3, by rw [List.length_reverse, h2.len], same_mut (x.hs.trans s1) x.nl, ?_, ⟨.ref p :: ys, by rw [upd_same, List.reverse_cons], .ref p, ys, rfl, ⟨p, v, rfl, Tk.mut h3 _ _ (SqT.of upd_same), r.tk tk⟩, h2.tk tk⟩, x.ne, x.nf, x.nl⟩
  rw [upd_ne x.ne, upd_ne npf]
  exact x.hf
theorem WI.pop {K : PySem.W.Frag} {H H' : Hp} {d : PyData} {f l : Addr} {fs : List (List Nat)} {e : En} {es : List En} (x : WI K H d f l fs (e :: es) H') {xs ys : List V} (h1 : H' l = some (.lst xs)) (h2 : EntAll K H' es ys) : WI K H d f l fs es (upd H' l (.lst ys.reverse)) :=
  ⟨same_mut x.hs x.nl, by rw [upd_ne x.ne]; exact x.hf, ⟨ys, upd_same, h2.tk (Tk.mut h1)⟩, x.ne, x.nf, x.nl⟩
section
variable {P : Program} {w : World} {K : PySem.W.Frag} {mg : Str → Option Value} {base : Heap} {C fI : Addr}
def spWC (K : PySem.W.Frag) : Sp := fun vs H Q _ => ∃ d v, vs = [v] ∧ Rp K H d v ∧ Cl 500 d ∧ (wr d).length ≤ 1000000 ∧ ∀ H', Same H H' → Q (.str (S (wr d))) H'
abbrev s_write_claim : Stmt := topS 17
abbrev N_write_claim : List Str := ["claim", "found", "left", "one", "text", "index"]
theorem sc_write_claim : FnScope N_write_claim ["claim"] (defScope s_write_claim) := ⟨rfl, rfl, rfl, by decide +kernel, rfl, by decide +kernel, by decide +kernel⟩
theorem ok_write_claim {f f1 : Addr} {fd fd1 : FuncData} (D_write_claim : DefAt K mg "write_claim" s_write_claim ["claim"] f fd) (D_word_of : DefAt K mg "word_of" s_word_of ["value"] f1 fd1) (z_isinstance : mg "isinstance" = none) (z_tuple : mg "tuple" = none) (z_len : mg "len" = none) (z_range : mg "range" = none)
    (G_word_of : FnOk P w K mg base CX0 4 f1 fd1 ["value"] (spWO K)) : FnOk P w K mg base CX0 5 f fd ["claim"] (spWC K) := by
  refine D_write_claim.F.ok sc_write_claim (fun vs H Q E h => ?_) (fun cdv A outer s H vs Q E hr h => ?_)
  · obtain ⟨d, v, rfl, _⟩ := h
    rfl
  obtain ⟨d, v, rfl, r, cl, hlen, q⟩ := h
  refine ⟨_, (pss_cons (ps_set (i := 1) sc_write_claim.nd rfl (Or.inl rfl) (pe_lst pa_nil))
      (pss_cons (ps_set (i := 2) sc_write_claim.nd rfl (Or.inl rfl) (pe_lst (pa_cons (pe_tup (pa_cons (pv 0) (pa_cons pe_str pa_nil))) pa_nil)))
      (pss_cons (ps_while PassesOwn.never (pt_truth (pv 2) (by intro _; rfl)) (pss_cons (ps_asg (pe_bm0 PySem.F.plainAttrs_list PySem.F.slot_list_pop PySem.F.type_list_pop mt_pop (pv 2)) (pg_tup (by rfl) (pgs_cons (pg_name (i := 3) sc_write_claim.nd rfl (Or.inl rfl)) (pgs_cons (pg_name (i := 4) sc_write_claim.nd rfl (Or.inl rfl)) pgs_nil))))
        (pss_cons (ps_expr (pe_bm PySem.F.plainAttrs_list PySem.F.slot_list_append PySem.F.type_list_append mt_append (pv 1) (pa_cons (pv 4) pa_nil)))
        (pss_one (ps_if (pt_truth (pe_callB call_isi (by rfl) z_isinstance (by decide +kernel) (pa_cons (pv 3) (pa_cons (pe_bltn (v := .ty "tuple") (by rfl) z_tuple (by decide +kernel) rfl) pa_nil))) (by intro _; rfl)) (pss_cons (ps_expr (pe_bm PySem.F.plainAttrs_list PySem.F.slot_list_append PySem.F.type_list_append mt_append (pv 1) (pa_cons pe_str pa_nil)))
          (pss_cons (ps_expr (pe_bm PySem.F.plainAttrs_list PySem.F.slot_list_append PySem.F.type_list_append mt_append (pv 2) (pa_cons (pe_tup (pa_cons pe_bl (pa_cons pe_str pa_nil))) pa_nil)))
          (pss_one (ps_for PassesOwn.never rfl (pi_range3 (by rfl) z_range (pa_cons (pe_op op_sub (pe_callB call_len_seq (by rfl) z_len (by decide +kernel) (pa_cons (pv 3) pa_nil)) pe_int) (pa_cons (pe_un un_neg pe_int) (pa_cons (pe_un un_neg pe_int) pa_nil)))) (pg_name (i := 5) sc_write_claim.nd rfl (Or.inl rfl))
            (pss_one (ps_expr (pe_bm PySem.F.plainAttrs_list PySem.F.slot_list_append PySem.F.type_list_append mt_append (pv 2) (pa_cons (pe_tup (pa_cons (pe_ix ix_tup (pv 3) (pv 5) (fun _ _ => rfl)) (pa_cons (pe_ifExp (pt_cmpR op_gt (pv 5) pe_int (nomark _)) pe_str pe_str) pa_nil))) pa_nil))))))))
          (pss_one (ps_if (pt_cmpR op_ne (pv 4) pe_str (nomark _)) (pss_one (ps_expr (pe_bm PySem.F.plainAttrs_list PySem.F.slot_list_append PySem.F.type_list_append mt_append (pv 1) (pa_cons (pe_call G_word_of (hr.mono (by first | decide | omega)) (by rfl) D_word_of.m D_word_of.F.kp D_word_of.b .nil pass0 (pa_cons (pv 3) pa_nil)) pa_nil))))
            pss_nil)))))))
      (pss_one (ps_ret (pe_join pe_str (pv 1))))))), ?_⟩
  have sl := sizeLine_eq
  have hsz := sz_le d cl
  -- found = []; left = [(claim, '')]
  refine ⟨Nat.zero_le _, fun f0 nf => ?_⟩
  refine ⟨_, rfl, by show 2 ≤ sizeLine; omega, fun t nt => ⟨by show 1 ≤ sizeLine; omega, fun l nl => ?_⟩⟩
  have S1 : Same H (upd H f0 (.lst [])) := same_new (Same.refl H) nf
  have S2 : Same H (upd (upd H f0 (.lst [])) t (.tup [v, .str (Str.ofString "")])) := same_new S1 nt
  have start : WI K H d f0 l [] [(d, [])] (upd (upd (upd H f0 (.lst [])) t (.tup [v, .str (Str.ofString "")])) l (.lst [.ref t])) := by
    have ft : f0 ≠ t := ne_of_none upd_same nt
    have fl : f0 ≠ l := ne_of_none (by rw [upd_ne ft]; exact upd_same) nl
    have tl : t ≠ l := ne_of_none upd_same nl
    have s3 := same_new S2 nl (o := .lst [.ref t])
    refine ⟨s3, by rw [upd_ne fl, upd_ne ft, upd_same]; rfl, ⟨[.ref t], upd_same, .ref t, [], rfl, ⟨t, v, rfl, SqT.of (by rw [upd_ne tl]; exact upd_same), r.tk (Tk.same s3)⟩, rfl⟩, fl, nf, ?_⟩
    cases z : H l with
    | none => rfl
    | some o => rw [S2 _ _ z] at nl; cases nl
  dsimp only [gName, List.set]
  generalize upd (upd (upd H f0 (.lst [])) t (.tup [v, .str (Str.ofString "")])) l (.lst [.ref t]) = H0 at start ⊢
  -- while left
  refine ⟨fun m σ' H' => ∃ fs es o3 o4 o5, σ' = [some v, some (.ref f0), some (.ref l), o3, o4, o5] ∧ WI K H d f0 l fs es H' ∧ m = wts es ∧ (∀ e ∈ es, EnOk e) ∧ fs.flatten ++ ems es = wr d ∧ fs.length + 2 * wts es ≤ 2 * sz d,
    ⟨_, [], [(d, [])], _, _, _, rfl, start, rfl, ?_, ?_, ?_⟩, fun m σ' H' hw => ?_⟩
  · intro e he
    rw [List.mem_singleton.mp he]
    exact ⟨cl, .inl rfl⟩
  · show ([] : List (List Nat)).flatten ++ (em (d, []) ++ []) = _
    rw [em_kid (by decide)]
    simp
  · show 0 + 2 * (sz d + 0) ≤ 2 * sz d
    omega
  obtain ⟨fs, es, o3, o4, o5, rfl, wi, rfl, ok, out, cnt⟩ := hw
  obtain ⟨ys, hys, ent⟩ := wi.hl
  cases es with
  | nil =>
    rw [show ys = [] from ent] at hys
    refine ⟨_, rfl, _, .inl ⟨_, SqL.of hys, rfl⟩, ite2 (fun e => nomatch e) (fun _ => ?_)⟩
    refine ⟨⟨_, rfl⟩, _, rfl, S [], f0, fs.map S, rfl, rfl, .inl (SqL.of wi.hf), ?_, ?_⟩
    · rw [sum_S]
      have : fs.flatten = wr d := by rw [← out]; simp [ems]
      rw [this]
      show (wr d).length + _ * 0 ≤ _
      omega
    · rw [join_txt, jn_nil, show fs.flatten = wr d by rw [← out]; simp [ems]]
      exact q _ wi.hs
  | cons e es =>
    obtain ⟨x, rr, rfl, ⟨p1, v1, rfl, sq1, rp1⟩, ent2⟩ := ent
    obtain ⟨d1, tx⟩ := e
    obtain ⟨la, dl⟩ := rev_last (x := V.ref p1) (r := rr)
    refine ⟨_, rfl, _, .inl ⟨_, SqL.of hys, rfl⟩, ite2 (fun _ => ?_) (fun e => absurd (by simp) e)⟩
    refine ⟨_, fun _ _ h => h, ?_⟩
    -- one, text = left.pop()
    refine ⟨_, rfl, .inl ⟨rfl, _, SqL.of hys⟩, _, _, _, rfl, rfl, hys, la, ?_⟩
    rw [dl]
    have wi1 := wi.pop hys ent2
    have tk1 : Tk K H' (upd H' l (.lst rr.reverse)) := Tk.mut hys
    have sq2 := tk1 _ _ sq1
    have rp2 := rp1.tk tk1
    have ok1 := ok _ (List.mem_cons_self ..)
    have ok2 : ∀ e ∈ es, EnOk e := fun e he => ok e (List.mem_cons_of_mem _ he)
    generalize upd H' l (.lst rr.reverse) = H1 at wi1 sq2 rp2 ⊢
    refine ⟨_, _, rfl, sq2, rfl, _, _, rfl, _, _, rfl, rfl, ?_⟩
    -- found.append(text)
    have wl : wts ((d1, tx) :: es) = sz d1 + wts es := rfl
    have wp := sz_pos d1
    refine ⟨_, rfl, .inl ⟨rfl, _, SqL.of wi1.hf⟩, _, rfl, _, _, _, rfl, rfl, wi1.hf, ?_, ?_⟩
    · rw [List.length_map, List.length_map]
      omega
    have wi2 := wi1.say tx
    have rp3 : Rp K _ d1 v1 := rp2.tk (Tk.mut (K := K) wi1.hf (o := .lst ((fs.map S).map V.str ++ [.str (S tx)])))
    generalize upd H1 f0 (.lst ((fs.map S).map V.str ++ [.str (S tx)])) = H2 at wi2 rp3 ⊢
    obtain ⟨tn, ty, kt, _⟩ := rp3.ty
    refine ⟨_, rfl, _, _, _, _, _, rfl, .ty "tuple", ty, kt, ?_⟩
    refine ⟨_, rfl, ite2 (fun e => ?_) (fun e => ?_)⟩
    · -- a tuple
      obtain ⟨ds, rfl⟩ : ∃ ds, d1 = .tuple ds := by
        cases d1 with
        | tuple ds => exact ⟨ds, rfl⟩
        | _ => cases e
      have wds : sz (.tuple ds) = 2 + szs ds := rfl
      have tx41 : tx ≠ [41] := by
        rintro rfl
        rcases ok1.2 with h | h | ⟨_, h⟩
        · cases h
        · cases h
        · cases h
      have dsl : ds.length ≤ szs ds := by
        have := wts_len (kids [] ds)
        rw [kids_wts] at this
        have kl : ∀ (tx : List Nat) (ds : List PyData), (kids tx ds).length = ds.length := by
          intro tx ds
          induction ds generalizing tx with
          | nil => rfl
          | cons d ds ih => rw [kids, List.length_cons, List.length_cons, ih]
        rw [kl] at this
        exact this
      -- found.append('(')
      refine ⟨_, rfl, .inl ⟨rfl, _, SqL.of wi2.hf⟩, _, _, _, rfl, rfl, wi2.hf, ?_, ?_⟩
      · rw [List.length_map, List.length_map, List.length_append, List.length_singleton]
        omega
      have wi3 := wi2.say [40]
      have rp4 : Rp K _ (.tuple ds) v1 := rp3.tk (Tk.mut (K := K) wi2.hf (o := .lst (((fs ++ [tx]).map S).map V.str ++ [.str (S [40])])))
      show tSeq _ _ _ _ (upd H2 f0 (.lst (((fs ++ [tx]).map S).map V.str ++ [.str (S [40])])))
      generalize upd H2 f0 (.lst (((fs ++ [tx]).map S).map V.str ++ [.str (S [40])])) = H3 at wi3 rp4 ⊢
      -- left.append((False, ')'))
      obtain ⟨ys3, hy3, _⟩ := wi3.hl
      refine ⟨_, rfl, .inl ⟨rfl, _, SqL.of hy3⟩, by show 2 ≤ sizeLine; omega, fun p np => ?_⟩
      obtain ⟨xs, hx, xl, wi4⟩ := wi3.lay (v := .bl false) (e := .bool false) (tx := [41]) np rfl
      refine ⟨_, _, _, rfl, rfl, hx, ?_, ?_⟩
      · have := wts_len es
        omega
      have rp5 : Rp K _ (.tuple ds) v1 := rp4.tk ((Tk.same (same_new (Same.refl H3) np (o := .tup [.bl false, .str (S [41])]))).trans (Tk.mut (K := K) hx (o := .lst (xs ++ [.ref p]))))
      show tSeq _ _ _ _ (upd (upd H3 p (.tup [.bl false, .str (S [41])])) l (.lst (xs ++ [.ref p])))
      generalize upd (upd H3 p (.tup [.bl false, .str (S [41])])) l (.lst (xs ++ [.ref p])) = H4 at wi4 rp5 ⊢
      obtain ⟨pt, xt, rfl, sqt, rpa⟩ := rp5
      have xtl := rpa.len
      -- for index in range(len(one) - 1, -1, -1)
      refine ⟨_, rfl, _, _, rfl, .inr sqt, _, _, rfl, rfl, _, rfl, _, rfl, ?_⟩
      have rg : RgC ((xt.length : Int) - 1) (-1) (-1) ds.length := by
        have := RgC.neg (i := (xt.length : Int) - 1) (j := -1) (by omega) (by omega) (by omega) (by omega)
        rw [show ((xt.length : Int) - 1 - (-1)).toNat = ds.length by omega] at this
        exact this
      refine ⟨_, _, _, ds.length, rfl, rg, for_rangeC (fun i σ' H' => ∃ o5, σ' = [some v, some (.ref f0), some (.ref l), some (.ref pt), some (.str (S tx)), o5] ∧
        WI K H d f0 l (fs ++ [tx] ++ [[40]]) (kids (if ds.length - i = 0 then [] else [32]) (ds.drop (ds.length - i)) ++ (.bool false, [41]) :: es) H' ∧ SqT K H' pt xt ∧ RpAll K H' ds xt) ⟨_, rfl, ?_, sqt, rpa⟩ ?_ ?_⟩
      · rw [Nat.sub_zero, List.drop_length]
        exact wi4
      · rintro i σ' H5 hi ⟨o5', rfl, wi5, sq5, rp5⟩
        obtain ⟨ys5, hy5, _⟩ := wi5.hl
        have lt : ds.length - 1 - i < ds.length := by omega
        obtain ⟨vi, hvi, rvi⟩ := rp5.get (List.getElem?_eq_getElem lt)
        have ix : ((xt.length : Int) - 1 + (i : Nat) * (-1)) = ((ds.length - 1 - i : Nat) : Int) := by omega
        rw [ix]
        refine ⟨_, rfl, .inl ⟨rfl, _, SqL.of hy5⟩, _, rfl, _, rfl, _, _, _, _, rfl, rfl, sq5, atI_nat hvi, ?_⟩
        refine ⟨_, rfl, _, _, rfl, rfl, _, rfl, ?_⟩
        have tl : kids (if ds.length - (i + 1) = 0 then [] else [32]) (ds.drop (ds.length - (i + 1))) = _ := kids_step hi (List.getElem?_eq_getElem lt)
        have lay : ∀ tx', tx' = (if ds.length - (i + 1) = 0 then [] else [32]) → ∀ p, H5 p = none → ∃ xs, upd H5 p (.tup [vi, .str (S tx')]) l = some (.lst xs) ∧ xs.length < sizeLine ∧
            (WI K H d f0 l (fs ++ [tx] ++ [[40]]) (kids (if ds.length - (i + 1) = 0 then [] else [32]) (ds.drop (ds.length - (i + 1))) ++ (.bool false, [41]) :: es) (upd (upd H5 p (.tup [vi, .str (S tx')])) l (.lst (xs ++ [.ref p]))) ∧ SqT K (upd (upd H5 p (.tup [vi, .str (S tx')])) l (.lst (xs ++ [.ref p]))) pt xt ∧ RpAll K (upd (upd H5 p (.tup [vi, .str (S tx')])) l (.lst (xs ++ [.ref p]))) ds xt) := by
          intro tx' etx p np
          obtain ⟨xs, hx, xl, wi6⟩ := wi5.lay (tx := tx') np rvi
          have tk6 : Tk K H5 (upd (upd H5 p (.tup [vi, .str (S tx')])) l (.lst (xs ++ [.ref p]))) := (Tk.same (same_new (Same.refl H5) np)).trans (Tk.mut hx)
          refine ⟨xs, hx, ?_, ?_, tk6 _ _ sq5, rp5.tk tk6⟩
          · rw [xl]
            have h1 := wts_len (kids (if ds.length - i = 0 then [] else [32]) (ds.drop (ds.length - i)) ++ (.bool false, [41]) :: es)
            rw [wts_app, kids_wts] at h1
            have h2 : szs (ds.drop (ds.length - i)) ≤ szs ds := by
              have : ∀ (n : Nat) (ds : List PyData), szs (ds.drop n) ≤ szs ds := by
                intro n
                induction n with
                | zero => intro ds; exact Nat.le_refl _
                | succ n ih =>
                  intro ds
                  cases ds with
                  | nil => exact Nat.le_refl _
                  | cons d ds => rw [List.drop_succ_cons, szs]; have := ih ds; omega
              exact this _ _
            have h3 : wts ((PyData.bool false, [41]) :: es) = 1 + wts es := rfl
            omega
          · rw [tl, ← etx]
            exact wi6
        refine ite2 (fun e => ?_) (fun e => ?_)
        · have e' : (0 : Int) < ((ds.length - 1 - i : Nat) : Int) := of_decide_eq_true e
          refine ⟨by show 2 ≤ sizeLine; omega, fun p np => ?_⟩
          obtain ⟨xs, hx, xl, w6⟩ := lay [32] (by rw [if_neg (by omega)]) p np
          exact ⟨_, _, _, rfl, rfl, hx, xl, _, rfl, w6⟩
        · have e' : ¬ (0 : Int) < ((ds.length - 1 - i : Nat) : Int) := of_decide_eq_false (Bool.eq_false_iff.mpr e)
          refine ⟨by show 2 ≤ sizeLine; omega, fun p np => ?_⟩
          obtain ⟨xs, hx, xl, w6⟩ := lay [] (by rw [if_pos (by omega)]) p np
          exact ⟨_, _, _, rfl, rfl, hx, xl, _, rfl, w6⟩
      · rintro σ' H5 ⟨o5', rfl, wi5, sq5, rp5⟩
        rw [Nat.sub_self, if_pos rfl, List.drop_zero] at wi5
        refine ⟨_, ?_, _, _, _, _, _, rfl, wi5, rfl, ?_, ?_, ?_⟩
        · rw [wts_app, kids_wts]
          show szs ds + (1 + wts es) < _
          omega
        · intro e he
          rcases List.mem_append.mp he with he | he
          · exact kids_ok (.inl rfl) ok1.1 e he
          · rcases List.mem_cons.mp he with rfl | he
            · exact ⟨True.intro, .inr (.inr ⟨rfl, rfl⟩)⟩
            · exact ok2 e he
        · rw [← out, ← ems_tup ds tx tx41 es]
          simp
        · rw [wts_app, kids_wts]
          show (fs ++ [tx] ++ [[40]]).length + 2 * (szs ds + (1 + wts es)) ≤ _
          rw [List.length_append, List.length_append, List.length_singleton, List.length_singleton]
          omega
    · -- no tuple
      have nt : isTup d1 = false := by
        cases z : isTup d1 with
        | false => rfl
        | true => exact absurd z e
      refine ⟨_, rfl, rfl, _, rfl, ite2 (fun e => ?_) (fun e => ?_)⟩
      · have tx41 : tx ≠ [41] := by
          rintro rfl
          exact absurd e (show ¬ (!decide (V.str (S [41]) = V.str (Str.ofString ")"))) = true by decide +kernel)
        have dl1 : (wr d1).length ≤ 1000000 := by
          have h1 := congrArg List.length out
          rw [ems_cons, em_kid tx41, List.length_append, List.length_append, List.length_append] at h1
          omega
        refine ⟨_, rfl, .inl ⟨rfl, _, SqL.of wi2.hf⟩, _, rfl, d1, v1, rfl, rp3, nt, ok1.1, dl1, fun H6 s6 => ?_⟩
        have wi6 : WI K H d f0 l (fs ++ [tx]) es H6 := by
          obtain ⟨ys6, h6, e6⟩ := wi2.hl
          exact ⟨wi2.hs.trans s6, s6 _ _ wi2.hf, ⟨ys6, s6 _ _ h6, e6.tk (Tk.same s6)⟩, wi2.ne, wi2.nf, wi2.nl⟩
        refine ⟨_, _, _, rfl, rfl, wi6.hf, ?_, ?_⟩
        · rw [List.length_map, List.length_map, List.length_append, List.length_singleton]
          omega
        refine ⟨_, ?_, _, _, _, _, _, rfl, wi6.say (wr d1), rfl, ok2, ?_, ?_⟩
        · omega
        · rw [← out, ems_cons, em_kid tx41]
          simp
        · rw [List.length_append, List.length_append, List.length_singleton, List.length_singleton]
          omega
      · have tx41 : tx = [41] := by
          by_cases z : V.str (S tx) = V.str (S [41])
          · exact word_is z
          · exact absurd (by rw [show Str.ofString ")" = S [41] from rfl, decide_eq_false z]; rfl) e
        refine ⟨_, ?_, _, _, _, _, _, rfl, wi2, rfl, ok2, ?_, ?_⟩
        · omega
        · rw [← out, ems_cons]
          show _ = fs.flatten ++ ((tx ++ (if tx = [41] then [] else wr d1)) ++ ems es)
          rw [if_pos tx41]
          simp
        · rw [List.length_append, List.length_singleton]
          omega
end
end FL

set_option Elab.async false
set_option linter.all false
set_option maxRecDepth 100000
set_option maxHeartbeats 1000000
namespace FL
open PySem PySem.Spec PyProof.Rows L2 PySem.NumText
/-! ### the reader's levels in the heap, the inmost first -/
def LevAll (K : PySem.W.Frag) (H : Hp) : List (List PyData) → List Addr → Prop
  | [], as => as = []
  | top :: ls, as => ∃ a r xs, as = a :: r ∧ H a = some (.lst xs) ∧ RpAll K H top xs ∧ LevAll K H ls r
theorem LevAll.keep {K : PySem.W.Frag} {H H' : Hp} (t : Tk K H H') : ∀ {L : List (List PyData)} {as : List Addr}, (∀ a ∈ as, ∀ o, H a = some o → H' a = some o) → LevAll K H L as → LevAll K H' L as
  | [], _, _, h => h
  | top :: ls, as, k, h => by
    obtain ⟨a, r, xs, rfl, ha, rp, hr⟩ := h
    exact ⟨a, r, xs, rfl, k a (List.mem_cons_self ..) _ ha, rp.tk t, LevAll.keep t (fun b hb => k b (List.mem_cons_of_mem _ hb)) hr⟩
theorem LevAll.len {K : PySem.W.Frag} {H : Hp} : ∀ {L : List (List PyData)} {as : List Addr}, LevAll K H L as → as.length = L.length
  | [], _, h => by rw [show _ = [] from h]; rfl
  | top :: ls, as, h => by
    obtain ⟨a, r, xs, rfl, ha, rp, hr⟩ := h
    rw [List.length_cons, List.length_cons, hr.len]
theorem LevAll.old {K : PySem.W.Frag} {H : Hp} : ∀ {L : List (List PyData)} {as : List Addr}, LevAll K H L as → ∀ a ∈ as, ∃ xs, H a = some (.lst xs)
  | [], _, h, a, ha => by rw [show _ = [] from h] at ha; cases ha
  | top :: ls, as, h, b, hb => by
    obtain ⟨a, r, xs, rfl, ha, rp, hr⟩ := h
    rcases List.mem_cons.mp hb with rfl | hb
    · exact ⟨xs, ha⟩
    · exact hr.old b hb
def refs (as : List Addr) : List V := as.reverse.map V.ref
theorem refs_cons (a : Addr) (r : List Addr) : refs (a :: r) = refs r ++ [.ref a] := by
  unfold refs
  rw [List.reverse_cons, List.map_append]
  rfl
theorem refs_len (as : List Addr) : (refs as).length = as.length := by
  unfold refs
  rw [List.length_map, List.length_reverse]
theorem refs_last {a : Addr} {r : List Addr} : (refs (a :: r))[(refs (a :: r)).length - 1]? = some (.ref a) ∧ (refs (a :: r)).dropLast = refs r ∧ atI (refs (a :: r)) (-1) = some (.ref a) := by
  rw [refs_cons]
  refine ⟨?_, ?_, atI_last _ _⟩
  · rw [List.length_append, List.length_singleton, Nat.add_sub_cancel, List.getElem?_append_right (Nat.le_refl _), Nat.sub_self]
    rfl
  · rw [List.dropLast_concat]
structure LI (K : PySem.W.Frag) (H : Hp) (lv : Addr) (L : List (List PyData)) (as : List Addr) (H' : Hp) : Prop where
  hs : Same H H'
  hl : H' lv = some (.lst (refs as))
  nd : as.Nodup
  nl : lv ∉ as
  la : LevAll K H' L as
  nlv : H lv = none
  nas : ∀ a ∈ as, H a = none
theorem LI.keep {K : PySem.W.Frag} {H H' H2 : Hp} {lv : Addr} {L : List (List PyData)} {as : List Addr} (x : LI K H lv L as H') (s : Same H' H2) : LI K H lv L as H2 :=
  ⟨x.hs.trans s, s _ _ x.hl, x.nd, x.nl, x.la.keep (Tk.same s) (fun a _ o h => s a o h), x.nlv, x.nas⟩
theorem LI.opens {K : PySem.W.Frag} {H H' : Hp} {lv p : Addr} {L : List (List PyData)} {as : List Addr} (x : LI K H lv L as H') (np : H' p = none) :
    upd H' p (.lst []) lv = some (.lst (refs as)) ∧ LI K H lv ([] :: L) (p :: as) (upd (upd H' p (.lst [])) lv (.lst (refs as ++ [.ref p]))) := by
  have y := x.keep (same_new (Same.refl H') np (o := .lst []))
  have plv : lv ≠ p := ne_of_none x.hl np
  have pas : p ∉ as := fun h => by
    obtain ⟨xs, e⟩ := x.la.old p h
    rw [np] at e; cases e
  refine ⟨y.hl, same_mut y.hs x.nlv, by rw [upd_same, refs_cons], List.nodup_cons.mpr ⟨pas, x.nd⟩, ?_, ⟨p, as, [], rfl, by rw [upd_ne (Ne.symm plv), upd_same], rfl, y.la.keep (Tk.mut y.hl) fun a ha o e => ?_⟩, x.nlv, ?_⟩
  · intro h
    rcases List.mem_cons.mp h with h | h
    · exact plv h
    · exact x.nl h
  · rw [upd_ne (fun z => x.nl (by rw [← z]; exact ha))]
    exact e
  · intro a ha
    rcases List.mem_cons.mp ha with rfl | ha
    · cases z : H a with
      | none => rfl
      | some o => rw [x.hs _ _ z] at np; cases np
    · exact x.nas a ha
theorem LI.puts {K : PySem.W.Frag} {H H' : Hp} {lv a : Addr} {top : List PyData} {ls : List (List PyData)} {r : List Addr} {xs : List V} {d : PyData} {v : V} (x : LI K H lv (top :: ls) (a :: r) H') (ha : H' a = some (.lst xs)) (rp : Rp K H' d v) :
    LI K H lv ((top ++ [d]) :: ls) (a :: r) (upd H' a (.lst (xs ++ [v]))) := by
  obtain ⟨a', r', xs', e, ha', rpa, hr⟩ := x.la
  injection e with e1 e2
  subst e1 e2
  rw [ha] at ha'
  injection ha' with ha'
  injection ha' with ha'
  subst ha'
  have tk : Tk K H' (upd H' a (.lst (xs ++ [v]))) := Tk.mut ha
  have nd := List.nodup_cons.mp x.nd
  refine ⟨same_mut x.hs (x.nas a (List.mem_cons_self ..)), ?_, x.nd, x.nl, ⟨a, r, _, rfl, upd_same, RpAll.snoc (rp.tk tk) (rpa.tk tk), hr.keep tk fun b hb o e => ?_⟩, x.nlv, x.nas⟩
  · rw [upd_ne (fun z => x.nl (by rw [z]; exact List.mem_cons_self ..))]
    exact x.hl
  · rw [upd_ne (fun z => nd.1 (by rw [← z]; exact hb))]
    exact e
theorem LI.pops {K : PySem.W.Frag} {H H' : Hp} {lv a : Addr} {top : List PyData} {ls : List (List PyData)} {r : List Addr} {xs : List V} (x : LI K H lv (top :: ls) (a :: r) H') (ha : H' a = some (.lst xs)) :
    LI K H lv ls r (upd H' lv (.lst (refs r))) ∧ upd H' lv (.lst (refs r)) a = some (.lst xs) ∧ RpAll K (upd H' lv (.lst (refs r))) top xs := by
  obtain ⟨a', r', xs', e, ha', rpa, hr⟩ := x.la
  injection e with e1 e2
  subst e1 e2
  rw [ha] at ha'
  injection ha' with ha'
  injection ha' with ha'
  subst ha'
  have tk : Tk K H' (upd H' lv (.lst (refs r))) := Tk.mut x.hl
  have nd := List.nodup_cons.mp x.nd
  have alv : a ≠ lv := fun z => x.nl (by rw [← z]; exact List.mem_cons_self ..)
  refine ⟨⟨same_mut x.hs x.nlv, upd_same, nd.2, fun h => x.nl (List.mem_cons_of_mem _ h), hr.keep tk fun b hb o e => ?_, x.nlv, fun b hb => x.nas b (List.mem_cons_of_mem _ hb)⟩, by rw [upd_ne alv]; exact ha, rpa.tk tk⟩
  rw [upd_ne (fun z => x.nl (by rw [← z]; exact List.mem_cons_of_mem _ hb))]
  exact e
section
variable {P : Program} {w : World} {K : PySem.W.Frag} {mg : Str → Option Value} {base : Heap} {C fI : Addr}
def spIW (K : PySem.W.Frag) : Sp := fun vs H Q _ => ∃ d v t, vs = [v, .str (S t)] ∧ Rp K H d v ∧ Cl 500 d ∧ (wr d).length ≤ 1000000 ∧ ∀ H', Same H H' → Q (.bl (isTup d && decide (wr d = t))) H'
abbrev s_is_written : Stmt := topS 22
abbrev N_is_written : List Str := ["claim", "text"]
theorem sc_is_written : FnScope N_is_written ["claim", "text"] (defScope s_is_written) := ⟨rfl, rfl, rfl, by decide +kernel, rfl, by decide +kernel, by decide +kernel⟩
theorem ok_is_written {f f1 : Addr} {fd fd1 : FuncData} (D_is_written : DefAt K mg "is_written" s_is_written ["claim", "text"] f fd) (D_write_claim : DefAt K mg "write_claim" s_write_claim ["claim"] f1 fd1) (z_isinstance : mg "isinstance" = none) (z_tuple : mg "tuple" = none)
    (G_write_claim : FnOk P w K mg base CX0 5 f1 fd1 ["claim"] (spWC K)) : FnOk P w K mg base CX0 6 f fd ["claim", "text"] (spIW K) := by
  refine D_is_written.F.ok sc_is_written (fun vs H Q E h => ?_) (fun cdv A outer s H vs Q E hr h => ?_)
  · obtain ⟨d, v, t, rfl, _⟩ := h
    rfl
  obtain ⟨d, v, t, rfl, r, cl, hlen, q⟩ := h
  refine ⟨_, (pss_one (ps_ret (pe_and (pe_callB call_isi (by rfl) z_isinstance (by decide +kernel) (pa_cons (pv 0) (pa_cons (pe_bltn (v := .ty "tuple") (by rfl) z_tuple (by decide +kernel) rfl) pa_nil))) (pe_one (pe_cmpR op_eq (pe_call G_write_claim (hr.mono (by first | decide | omega)) (by rfl) D_write_claim.m D_write_claim.F.kp D_write_claim.b .nil pass0 (pa_cons (pv 0) pa_nil)) (pv 1) (nomark _)))))), ?_⟩
  obtain ⟨tn, ty, kt, _⟩ := r.ty
  refine ⟨_, rfl, _, _, _, _, _, rfl, .ty "tuple", ty, kt, ?_⟩
  refine ⟨_, rfl, ite2 (fun e => ?_) (fun e => ?_)⟩
  · have q' := q
    rw [e] at q'
    refine ⟨_, rfl, d, v, rfl, r, cl, hlen, fun H' s' => ⟨_, rfl, rfl, ?_⟩⟩
    have := q' H' s'
    rw [Bool.true_and] at this
    rw [show decide (V.str (S (wr d)) = V.str (S t)) = decide (wr d = t) by
      rw [Bool.eq_iff_iff, decide_eq_true_eq, decide_eq_true_eq]
      exact ⟨fun h => S_inj (by injection h), fun h => by rw [h]⟩]
    exact this
  · have e' : isTup d = false := by
      cases z : isTup d with
      | false => rfl
      | true => exact absurd z e
    have := q H (Same.refl H)
    rw [e', Bool.false_and] at this
    exact this
end
end FL

set_option Elab.async false
set_option linter.all false
set_option maxRecDepth 100000
set_option maxHeartbeats 2000000
namespace FL
open PySem PySem.Spec PyProof.Rows L2 PySem.NumText
theorem sign_is {c k : Nat} {x : Str} (hx : x = S [k]) : decide (V.str ⟨#[c]⟩ = V.str x) = true → c = k := fun e => by
  have := of_decide_eq_true e
  rw [hx] at this
  exact one_is this
theorem sign_not {c k : Nat} {x : Str} (hx : x = S [k]) : ¬ decide (V.str ⟨#[c]⟩ = V.str x) = true → c ≠ k := fun e z => e (by rw [z, hx]; exact decide_eq_true rfl)
section
variable {P : Program} {w : World} {K : PySem.W.Frag} {mg : Str → Option Value} {base : Heap} {C fI : Addr}
def spRC (K : PySem.W.Frag) (C : Addr) : Sp := fun vs H Q E => ∃ t : List Nat, vs = [.str (S t)] ∧ t.length ≤ 100000 ∧ mx t ≤ 500 ∧ (∀ d v H', parse t = some d → Same H H' → Rp K H' d v → Q v H') ∧ (parse t = none → Bad C H E)
theorem parse_no {t : List Nat} (h : RD [[]] t = none) : parse t = none := by
  unfold parse
  rw [h]
theorem parse_one {t : List Nat} {d : PyData} (h : RD [[]] t = some [[d]]) : parse t = if isTup d = true ∧ wr d = t then some d else none := by
  unfold parse
  rw [h]
theorem parse_many {t : List Nat} {L : List (List PyData)} (h : RD [[]] t = some L) (n : ∀ d, L ≠ [[d]]) : parse t = none := by
  unfold parse
  rw [h]
  split
  · rename_i d e
    injection e with e
    exact absurd e (n d)
  · rfl
abbrev s_read_claim : Stmt := topS 21
abbrev N_read_claim : List Str := ["text", "levels", "at", "done", "value", "end"]
theorem sc_read_claim : FnScope N_read_claim ["text"] (defScope s_read_claim) := ⟨rfl, rfl, rfl, by decide +kernel, rfl, by decide +kernel, by decide +kernel⟩
theorem ok_read_claim {f f1 f2 f3 f4 ff : Addr} {fd fd1 fd2 fd3 fd4 fdf : FuncData} (D_read_claim : DefAt K mg "read_claim" s_read_claim ["text"] f fd) (D_is_written : DefAt K mg "is_written" s_is_written ["claim", "text"] f1 fd1) (D_read_word : DefAt K mg "read_word" s_read_word ["word"] f2 fd2)
    (D_string_at : DefAt K mg "string_at" s_string_at ["text", "at"] f3 fd3) (D_word_end : DefAt K mg "word_end" s_word_end ["text", "at"] f4 fd4) (D_fail : DefAt K mg "fail" s_fail [] ff fdf) (z_len : mg "len" = none) (z_tuple : mg "tuple" = none)
    (G_is_written : FnOk P w K mg base CX0 6 f1 fd1 ["claim", "text"] (spIW K)) (G_read_word : FnOk P w K mg base (L2.CX P w) 6 f2 fd2 ["word"] (spRW C K)) (G_string_at : FnOk P w K mg base (L2.CX P w) 4 f3 fd3 ["text", "at"] (spSA C)) (G_word_end : FnOk P w K mg base CX0 1 f4 fd4 ["text", "at"] spWE)
    (G_fail : FnOk P w K mg base (L2.CX P w) 3 ff fdf [] (spFail C)) : FnOk P w K mg base (L2.CX P w) 7 f fd ["text"] (spRC K C) := by
  refine D_read_claim.F.okX sc_read_claim (fun vs H Q E h => ?_) (fun cdv A outer s H vs Q E hr h => ?_)
  · obtain ⟨t, rfl, _⟩ := h
    rfl
  obtain ⟨t, rfl, ht, hm, q, b⟩ := h
  refine ⟨_, (pss_cons (ps_set (i := 1) sc_read_claim.nd rfl (Or.inl rfl) (pe_lst (pa_cons (pe_lst pa_nil) pa_nil)))
      (pss_cons (ps_set (i := 2) sc_read_claim.nd rfl (Or.inl rfl) pe_int)
      (pss_cons (ps_while (passes_of rfl) (pt_cmpR op_lt (pv 2) (pe_callB call_len (by rfl) z_len (by decide +kernel) (pa_cons (pv 0) pa_nil)) (nomark _)) (pss_one (ps_if (pt_cmpR op_eq (pe_ix ix_str (pv 0) (pv 2) (fun _ _ => rfl)) pe_str (nomark _)) (pss_cons (ps_expr (pe_bm PySem.F.plainAttrs_list PySem.F.slot_list_append PySem.F.type_list_append mt_append (pv 1) (pa_cons (pe_lst pa_nil) pa_nil)))
          (pss_one (ps_aug (i := 2) sc_read_claim.nd rfl (Or.inl rfl) pe_int ip_add)))
          (pss_one (ps_if (pt_cmpR op_eq (pe_ix ix_str (pv 0) (pv 2) (fun _ _ => rfl)) pe_str (nomark _)) (pss_cons (ps_if (pt_cmpR op_eq (pe_callB call_len_seq (by rfl) z_len (by decide +kernel) (pa_cons (pv 1) pa_nil)) pe_int (nomark _)) (pss_one (ps_expr (pe_call0 G_fail (hr.mono (by first | decide | omega)) (by rfl) D_fail.m D_fail.F.kp D_fail.b .nil (passes_call (takes_of rfl rfl rfl rfl) (fun _ _ _ _ h => h)))))
              pss_nil)
            (pss_cons (ps_set (i := 3) sc_read_claim.nd rfl (Or.inl rfl) (pe_callTy call_tuple_of (by rfl) z_tuple (by decide +kernel) (pa_cons (pe_bm0 PySem.F.plainAttrs_list PySem.F.slot_list_pop PySem.F.type_list_pop mt_pop (pv 1)) pa_nil)))
            (pss_cons (ps_expr (pe_bm PySem.F.plainAttrs_list PySem.F.slot_list_append PySem.F.type_list_append mt_append (pe_ix ix_list (pv 1) (pe_un un_neg pe_int) (fun _ _ => rfl)) (pa_cons (pv 3) pa_nil)))
            (pss_one (ps_aug (i := 2) sc_read_claim.nd rfl (Or.inl rfl) pe_int ip_add)))))
            (pss_one (ps_if (pt_cmpR op_eq (pe_ix ix_str (pv 0) (pv 2) (fun _ _ => rfl)) pe_str (nomark _)) (pss_one (ps_aug (i := 2) sc_read_claim.nd rfl (Or.inl rfl) pe_int ip_add))
              (pss_one (ps_if (pt_cmpR op_eq (pe_ix ix_str (pv 0) (pv 2) (fun _ _ => rfl)) pe_str (nomark _)) (pss_cons (ps_asg (pe_callS G_string_at (hr.mono (by first | decide | omega)) (by rfl) D_string_at.m D_string_at.F.kp D_string_at.b (fun q => passAt (takes_of rfl rfl rfl rfl) q) (pa_cons (pv 0) (pa_cons (pv 2) pa_nil))) (pg_tup (by rfl) (pgs_cons (pg_name (i := 4) sc_read_claim.nd rfl (Or.inl rfl)) (pgs_cons (pg_name (i := 2) sc_read_claim.nd rfl (Or.inl rfl)) pgs_nil))))
                (pss_one (ps_expr (pe_bm PySem.F.plainAttrs_list PySem.F.slot_list_append PySem.F.type_list_append mt_append (pe_ix ix_list (pv 1) (pe_un un_neg pe_int) (fun _ _ => rfl)) (pa_cons (pv 4) pa_nil)))))
                (pss_cons (ps_set (i := 5) sc_read_claim.nd rfl (Or.inl rfl) (pe_call G_word_end (hr.mono (by first | decide | omega)) (by rfl) D_word_end.m D_word_end.F.kp D_word_end.b .nil pass0 (pa_cons (pv 0) (pa_cons (pv 2) pa_nil))))
                (pss_cons (ps_expr (pe_bm PySem.F.plainAttrs_list PySem.F.slot_list_append PySem.F.type_list_append mt_append (pe_ix ix_list (pv 1) (pe_un un_neg pe_int) (fun _ _ => rfl)) (pa_cons (pe_callS G_read_word (hr.mono (by first | decide | omega)) (by rfl) D_read_word.m D_read_word.F.kp D_read_word.b (fun q => passAt (takes_of rfl rfl rfl rfl) q) (pa_cons (pe_slice sl_str (pv 0) (po_some (pv 2)) (po_some (pv 5))) pa_nil)) pa_nil)))
                (pss_one (ps_set (i := 2) sc_read_claim.nd rfl (Or.inl rfl) (pv 5))))))))))))))
      (pss_cons (ps_if (PW.pt (pw_or (pt_cmpR op_ne (pe_callB call_len_seq (by rfl) z_len (by decide +kernel) (pa_cons (pv 1) pa_nil)) pe_int (nomark _)) (pw_or (pt_cmpR op_ne (pe_callB call_len_seq (by rfl) z_len (by decide +kernel) (pa_cons (pe_ix ix_list (pv 1) pe_int (fun _ _ => rfl)) pa_nil)) pe_int (nomark _)) (pw_or1 (pt_not (pt_val (pe_call G_is_written (hr.mono (by first | decide | omega)) (by rfl) D_is_written.m D_is_written.F.kp D_is_written.b .nil pass0 (pa_cons (pe_ix ix_list (pe_ix ix_list (pv 1) pe_int (fun _ _ => rfl)) pe_int (fun _ _ => rfl)) (pa_cons (pv 0) pa_nil))))))))) (pss_one (ps_expr (pe_call0 G_fail (hr.mono (by first | decide | omega)) (by rfl) D_fail.m D_fail.F.kp D_fail.b .nil (passes_call (takes_of rfl rfl rfl rfl) (fun _ _ _ _ h => h)))))
        pss_nil)
      (pss_one (ps_ret (pe_ix ix_list (pe_ix ix_list (pv 1) pe_int (fun _ _ => rfl)) pe_int (fun _ _ => rfl)))))))), ?_⟩
  have sl := sizeLine_eq
  have hlen : t.length ≤ sizeLine := by omega
  -- levels = [[]]; at = 0
  refine ⟨Nat.zero_le _, fun p np => ⟨by show 1 ≤ sizeLine; omega, fun lv nl => ?_⟩⟩
  have start : LI K H lv [[]] [p] (upd (upd H p (.lst [])) lv (.lst [.ref p])) := by
    have pl : p ≠ lv := ne_of_none upd_same nl
    have s1 : Same H (upd H p (.lst [])) := same_new (Same.refl H) np
    refine ⟨same_new s1 nl, upd_same, by simp, by simp [Ne.symm pl], ⟨p, [], [], rfl, by rw [upd_ne pl]; exact upd_same, rfl, rfl⟩, ?_, ?_⟩
    · cases z : H lv with
      | none => rfl
      | some o => rw [s1 _ _ z] at nl; cases nl
    · intro a ha
      rw [List.mem_singleton.mp ha]
      exact np
  dsimp only [gName, List.set]
  generalize upd (upd H p (.lst [])) lv (.lst [.ref p]) = H0 at start ⊢
  -- while at < len(text)
  refine ⟨fun m σ' H' => ∃ (i : Nat) (L : List (List PyData)) (as : List Addr) (o3 o4 o5 : Option V), σ' = [some (.str (S t)), some (.ref lv), some (.int (i : Int)), o3, o4, o5] ∧ m = t.length - i ∧ i ≤ t.length ∧ LI K H lv L as H' ∧ RD [[]] t = RD L (t.drop i) ∧ L ≠ [] ∧ L.length ≤ i + 1 ∧ (∀ x ∈ L, x.length ≤ i),
    ⟨_, 0, [[]], [p], _, _, _, rfl, rfl, Nat.zero_le _, start, rfl, List.cons_ne_nil _ _, Nat.le_refl _, ?_⟩, fun m σ' H' hw => ?_⟩
  · intro x hx
    rw [List.mem_singleton.mp hx]
    exact Nat.le_refl _
  obtain ⟨i, L, as, o3, o4, o5, rfl, rfl, hi, li, hR, hne, hL, hX⟩ := hw
  refine ⟨_, rfl, _, rfl, _, _, rfl, ⟨hlen, rfl⟩, _, _, rfl, rfl, _, rfl, ite2 (fun e => ?_) (fun e => ?_)⟩
  · have lt : i < t.length := Int.ofNat_lt.mp (of_decide_eq_true e)
    have dr := List.drop_eq_getElem_cons lt
    have mxr : mx (t.drop i) ≤ 500 := by
      have := mx_right (t.take i) (t.drop i)
      rw [List.take_append_drop] at this
      omega
    generalize hc : t[i] = c at dr
    have ac : atI (S t).cps.toList (i : Int) = some c := by rw [← hc]; exact at_code lt
    rw [dr, RD_cons] at hR
    obtain ⟨top, ls, rfl⟩ : ∃ top ls, L = top :: ls := by
      cases L with
      | nil => exact absurd rfl hne
      | cons top ls => exact ⟨top, ls, rfl⟩
    have la := li.la
    obtain ⟨a, r, xs, rfl, ha, rpa, hr⟩ := la
    have xl := rpa.len
    have topl := hX top (List.mem_cons_self ..)
    refine ⟨_, fun _ _ h => h, ?_⟩
    -- if text[at] == '('
    refine ⟨_, rfl, _, rfl, _, _, c, rfl, rfl, hlen, ac, rfl, _, rfl, ite2 (fun e1 => ?_) (fun e1 => ?_)⟩
    · have c40 := sign_is (k := 40) rfl e1
      subst c40
      have hR2 : RD [[]] t = RD ([] :: top :: ls) (t.drop (i + 1)) := hR
      refine ⟨_, rfl, .inl ⟨rfl, _, SqL.of li.hl⟩, Nat.zero_le _, fun p np => ?_⟩
      obtain ⟨h1, li2⟩ := li.opens np
      refine ⟨_, _, _, rfl, rfl, h1, ?_, ?_⟩
      · rw [refs_len, li.la.len]
        omega
      refine ⟨_, rfl, _, _, rfl, rfl, _, ?_, i + 1, _, _, _, _, _, rfl, rfl, lt, li2, hR2, List.cons_ne_nil _ _, ?_, ?_⟩
      · show t.length - (i + 1) < t.length - i
        omega
      · rw [List.length_cons]
        omega
      · intro x hx
        rcases List.mem_cons.mp hx with rfl | hx
        · exact Nat.zero_le _
        · have := hX x hx
          omega
    have n40 := sign_not (k := 40) rfl e1
    -- if text[at] == ')'
    refine ⟨_, rfl, _, rfl, _, _, c, rfl, rfl, hlen, ac, rfl, _, rfl, ite2 (fun e2 => ?_) (fun e2 => ?_)⟩
    · have c41 := sign_is (k := 41) rfl e2
      subst c41
      refine ⟨_, rfl, _, _, rfl, .inl (SqL.of li.hl), rfl, _, rfl, ite2 (fun e3 => ?_) (fun e3 => ?_)⟩
      · have e3' := of_decide_eq_true e3
        injection e3' with e3'
        rw [refs_len, li.la.len] at e3'
        have : ls = [] := by
          cases ls with
          | nil => rfl
          | cons x ls =>
            rw [List.length_cons, List.length_cons] at e3'
            omega
        subst this
        exact ⟨rfl, (b (parse_no hR)).of li.hs⟩
      have hls : ls ≠ [] := by
        rintro rfl
        refine e3 (decide_eq_true ?_)
        rw [refs_len, li.la.len]
        rfl
      obtain ⟨nx, ls, rfl⟩ : ∃ nx ls', ls = nx :: ls' := by
        cases ls with
        | nil => exact absurd rfl hls
        | cons x ls => exact ⟨x, ls, rfl⟩
      have hR2 : RD [[]] t = RD ((nx ++ [.tuple top]) :: ls) (t.drop (i + 1)) := hR
      obtain ⟨l1, l2, l3⟩ := refs_last (a := a) (r := r)
      -- done = tuple(levels.pop())
      refine ⟨_, rfl, .inl ⟨rfl, _, SqL.of li.hl⟩, _, _, _, rfl, rfl, li.hl, l1, ?_⟩
      rw [l2]
      obtain ⟨li2, ha2, rp2⟩ := li.pops ha
      generalize upd _ lv (.lst (refs r)) = H1 at li2 ha2 rp2 ⊢
      refine ⟨_, _, rfl, .inl ⟨SqL.of ha2, fun p np => ?_⟩⟩
      have s3 : Same H1 (upd H1 p (.tup xs)) := same_new (Same.refl H1) np
      have li3 := li2.keep s3
      have rp3 : Rp K (upd H1 p (.tup xs)) (.tuple top) (.ref p) := ⟨p, xs, rfl, SqT.of upd_same, rp2.tk (Tk.same s3)⟩
      show tSeq _ _ _ _ (upd H1 p (.tup xs))
      generalize upd H1 p (.tup xs) = H2 at li3 rp3 ⊢
      -- levels[-1].append(done)
      have la3 := li3.la
      obtain ⟨a3, r3, xs3, rfl, ha3, rpa3, hr3⟩ := la3
      have xl3 := rpa3.len
      have nxl := hX nx (List.mem_cons_of_mem _ (List.mem_cons_self ..))
      obtain ⟨m1, m2, m3⟩ := refs_last (a := a3) (r := r3)
      refine ⟨_, rfl, _, rfl, _, _, _, _, rfl, rfl, SqL.of li3.hl, m3, .inl ⟨rfl, _, SqL.of ha3⟩, _, rfl, _, _, _, rfl, rfl, ha3, by omega, ?_⟩
      refine ⟨_, rfl, _, _, rfl, rfl, _, ?_, i + 1, _, _, _, _, _, rfl, rfl, lt, li3.puts ha3 rp3, hR2, List.cons_ne_nil _ _, ?_, ?_⟩
      · show t.length - (i + 1) < t.length - i
        omega
      · simp only [List.length_cons] at hL ⊢
        omega
      · intro x hx
        rcases List.mem_cons.mp hx with rfl | hx
        · rw [List.length_append, List.length_singleton]
          omega
        · have := hX x (List.mem_cons_of_mem _ (List.mem_cons_of_mem _ hx))
          omega
    have n41 := sign_not (k := 41) rfl e2
    -- if text[at] == ' '
    refine ⟨_, rfl, _, rfl, _, _, c, rfl, rfl, hlen, ac, rfl, _, rfl, ite2 (fun e3 => ?_) (fun e3 => ?_)⟩
    · have c32 := sign_is (k := 32) rfl e3
      subst c32
      have hR2 : RD [[]] t = RD (top :: ls) (t.drop (i + 1)) := hR
      refine ⟨_, rfl, _, _, rfl, rfl, _, ?_, i + 1, _, _, _, _, _, rfl, rfl, lt, li, hR2, List.cons_ne_nil _ _, by omega, ?_⟩
      · show t.length - (i + 1) < t.length - i
        omega
      · intro x hx
        have := hX x hx
        omega
    have n32 := sign_not (k := 32) rfl e3
    obtain ⟨m1, m2, m3⟩ := refs_last (a := a) (r := r)
    -- if text[at] == '"'
    refine ⟨_, rfl, _, rfl, _, _, c, rfl, rfl, hlen, ac, rfl, _, rfl, ite2 (fun e4 => ?_) (fun e4 => ?_)⟩
    · have c34 := sign_is (k := 34) rfl e4
      subst c34
      have tn : turn (top :: ls) 34 (t.drop (i + 1)) = (match (t.drop (i + 1)).dropWhile isLet with | 34 :: r' => .go (push (top :: ls) (.str (S ((t.drop (i + 1)).takeWhile isLet)))) r' | _ => .fail) := rfl
      rw [tn] at hR
      refine ⟨_, rfl, _, rfl, t, i, rfl, lt, hlen, fun w r' h1 h2 p np => ?_, fun hno => ?_⟩
      · rw [h1, h2] at hR
        have hR2 : RD [[]] t = RD ((top ++ [.str (S w)]) :: ls) r' := hR
        have s3 := same_new (Same.refl _) np (o := .tup [.str (S w), .int ((i + w.length + 2 : Nat) : Int)])
        have li3 := li.keep s3
        have ha3 := s3 _ _ ha
        have e5 : t.drop (i + 1) = w ++ 34 :: r' := by
          rw [← List.takeWhile_append_dropWhile (p := isLet) (l := t.drop (i + 1)), h1, h2]
        have e6 : t.drop (i + w.length + 2) = r' := by
          have : t.drop (i + w.length + 2) = (t.drop (i + 1)).drop (w.length + 1) := by
            rw [List.drop_drop]
            congr 1
            omega
          rw [this, e5, ← List.drop_drop, List.drop_left]
          rfl
        have e7 : i + w.length + 2 ≤ t.length := by
          have := congrArg List.length e5
          rw [List.length_drop, List.length_append, List.length_cons] at this
          omega
        refine ⟨_, _, rfl, SqT.of upd_same, rfl, _, _, rfl, _, _, rfl, rfl, ?_⟩
        refine ⟨_, rfl, _, rfl, _, _, _, _, rfl, rfl, SqL.of li3.hl, m3, .inl ⟨rfl, _, SqL.of ha3⟩, _, rfl, _, _, _, rfl, rfl, ha3, by omega, ?_⟩
        refine ⟨_, ?_, i + w.length + 2, _, _, _, _, _, rfl, rfl, e7, li3.puts ha3 (d := .str (S w)) rfl, by rw [e6]; exact hR2, List.cons_ne_nil _ _, ?_, ?_⟩
        · show t.length - (i + w.length + 2) < t.length - i
          omega
        · simp only [List.length_cons] at hL ⊢
          omega
        · intro x hx
          rcases List.mem_cons.mp hx with rfl | hx
          · rw [List.length_append, List.length_singleton]
            omega
          · have := hX x (List.mem_cons_of_mem _ hx)
            omega
      · refine (b (parse_no ?_)).of li.hs
        rw [hR]
        split
        · rfl
        · rename_i e5
          split at e5
          · rename_i e6
            exact absurd e6 (hno _)
          · cases e5
    have n34 := sign_not (k := 34) rfl e4
    -- a word
    have ns : isSep c = false := sep_ne n40 n41 n32 n34
    have tn : turn (top :: ls) c (t.drop (i + 1)) = (match rWord ((c :: t.drop (i + 1)).takeWhile fun x => !isSep x) with | some d => .go (push (top :: ls) d) ((c :: t.drop (i + 1)).dropWhile fun x => !isSep x) | none => .fail) := by
      unfold turn
      rw [if_neg n40, if_neg n41, if_neg n32, if_neg n34]
      all_goals rfl
    rw [tn, ← dr] at hR
    have hh := hd_take (t.drop i)
    have h1 : 1 ≤ hd (t.drop i) := by
      rw [dr, hd, if_neg (by rw [ns]; decide)]
      omega
    have h2 : hd (t.drop i) ≤ 500 := Nat.le_trans (hd_mx _) mxr
    have h3 := hd_le (t.drop i)
    rw [List.length_drop] at h3
    have tk : (t.drop i).take (hd (t.drop i)) = (t.drop i).takeWhile fun x => !isSep x := by
      conv => lhs; arg 2; rw [← List.takeWhile_append_dropWhile (p := fun x => !isSep x) (l := t.drop i)]
      rw [← hh, List.take_left]
    have td : t.drop (i + hd (t.drop i)) = (t.drop i).dropWhile fun x => !isSep x := by
      rw [← List.drop_drop]
      conv => lhs; arg 2; rw [← List.takeWhile_append_dropWhile (p := fun x => !isSep x) (l := t.drop i)]
      rw [← hh, List.drop_left]
    refine ⟨_, rfl, _, rfl, t, i, rfl, hi, hlen, ?_⟩
    refine ⟨_, rfl, _, rfl, _, _, _, _, rfl, rfl, SqL.of li.hl, m3, .inl ⟨rfl, _, SqL.of ha⟩, _, rfl, _, rfl, _, rfl, _, rfl, _, rfl, _, rfl, hlen, ?_⟩
    rw [cut_in, show i + hd (t.drop i) - i = hd (t.drop i) by omega]
    refine ⟨_, rfl, ?_, fun d v hd' rd' => ?_, fun hno => ?_⟩
    · rw [List.length_take]
      omega
    · rw [tk] at hd'
      rw [hd'] at hR
      have hR2 : RD [[]] t = RD ((top ++ [d]) :: ls) ((t.drop i).dropWhile fun x => !isSep x) := hR
      have rd2 : Rp K _ d v := rd'
      refine ⟨_, _, _, rfl, rfl, ha, by omega, ?_⟩
      refine ⟨_, rfl, _, ?_, i + hd (t.drop i), _, _, _, _, _, rfl, rfl, by omega, li.puts ha rd2, by rw [td]; exact hR2, List.cons_ne_nil _ _, ?_, ?_⟩
      · show t.length - (i + hd (t.drop i)) < t.length - i
        omega
      · simp only [List.length_cons] at hL ⊢
        omega
      · intro x hx
        rcases List.mem_cons.mp hx with rfl | hx
        · rw [List.length_append, List.length_singleton]
          omega
        · have := hX x (List.mem_cons_of_mem _ hx)
          omega
    · rw [tk] at hno
      rw [hno] at hR
      exact (b (parse_no hR)).of li.hs
  · -- the end
    have ge : t.length ≤ i := by
      by_cases z : i < t.length
      · exact absurd (decide_eq_true (Int.ofNat_lt.mpr z)) e
      · omega
    rw [List.drop_of_length_le ge, RD_nil] at hR
    obtain ⟨top, ls, rfl⟩ : ∃ top ls, L = top :: ls := by
      cases L with
      | nil => exact absurd rfl hne
      | cons top ls => exact ⟨top, ls, rfl⟩
    have la := li.la
    obtain ⟨a, r, xs, rfl, ha, rpa, hr⟩ := la
    have xl := rpa.len
    have rl := hr.len
    have len1 : (refs (a :: r)).length = ls.length + 1 := by rw [refs_len, List.length_cons, rl]
    by_cases c1 : ls = []
    · subst c1
      have hr0 : r = [] := hr
      subst hr0
      have i0 : atI (refs [a]) 0 = some (.ref a) := rfl
      by_cases c2 : top.length = 1
      · obtain ⟨d, rfl⟩ := List.length_eq_one_iff.mp c2
        obtain ⟨v, vs, rfl, rd', hvs⟩ := rpa
        have hvs0 : vs = [] := hvs
        subst hvs0
        have j0 : atI [v] 0 = some v := rfl
        obtain ⟨cl, wl⟩ := RD_one hm hR
        have hP := parse_one hR
        refine ⟨_, rfl, _, _, rfl, .inl (SqL.of li.hl), rfl, _, rfl, ite2 (fun e1 => nomatch e1) (fun _ => ?_)⟩
        refine ⟨_, rfl, _, _, _, _, rfl, rfl, SqL.of li.hl, i0, _, _, rfl, .inl (SqL.of ha), rfl, _, rfl, ite2 (fun e1 => nomatch e1) (fun _ => ?_)⟩
        refine ⟨_, rfl, _, _, _, _, rfl, rfl, SqL.of li.hl, i0, _, _, _, _, rfl, rfl, SqL.of ha, j0, ?_⟩
        refine ⟨_, rfl, d, v, t, rfl, rd', cl, by omega, fun H2 s2 => ?_⟩
        refine ⟨_, rfl, ite2 (fun e1 => ?_) (fun e1 => ?_)⟩
        · have no : ¬ (isTup d = true ∧ wr d = t) := fun ⟨z1, z2⟩ => by
            rw [z1, decide_eq_true z2] at e1
            cases e1
          exact ⟨rfl, (b (by rw [hP, if_neg no])).of (li.hs.trans s2)⟩
        · have yes : isTup d = true ∧ wr d = t := by
            cases z : isTup d && decide (wr d = t) with
            | false => rw [z] at e1; exact absurd rfl e1
            | true =>
              rw [Bool.and_eq_true, decide_eq_true_eq] at z
              exact z
          refine ⟨_, rfl, _, _, _, _, rfl, rfl, SqL.of (s2 _ _ li.hl), i0, _, _, _, _, rfl, rfl, SqL.of (s2 _ _ ha), j0, ?_⟩
          exact q d v _ (by rw [hP, if_pos yes]) (li.hs.trans s2) (rd'.tk (Tk.same s2))
      · have hP : parse t = none := parse_many hR fun d z => by
          injection z with z
          rw [z] at c2
          exact c2 rfl
        refine ⟨_, rfl, _, _, rfl, .inl (SqL.of li.hl), rfl, _, rfl, ite2 (fun e1 => nomatch e1) (fun _ => ?_)⟩
        refine ⟨_, rfl, _, _, _, _, rfl, rfl, SqL.of li.hl, i0, _, _, rfl, .inl (SqL.of ha), rfl, _, rfl, ite2 (fun _ => ?_) (fun e1 => absurd ?_ e1)⟩
        · refine ite2 (fun _ => ⟨rfl, (b hP).of li.hs⟩) (fun e1 => absurd rfl e1)
        · have : decide (V.int (xs.length : Int) = V.int 1) = false := decide_eq_false fun z => c2 (by injection z with z; omega)
          rw [this]
          rfl
    · have hP : parse t = none := parse_many hR fun d z => by
        injection z with _ z
        exact c1 z
      refine ⟨_, rfl, _, _, rfl, .inl (SqL.of li.hl), rfl, _, rfl, ite2 (fun _ => ?_) (fun e1 => absurd ?_ e1)⟩
      · refine ite2 (fun _ => ⟨rfl, (b hP).of li.hs⟩) (fun e1 => absurd rfl e1)
      · have : decide (V.int ((refs (a :: r)).length : Int) = V.int 1) = false := decide_eq_false fun z => c1 (by
          injection z with z
          rw [len1] at z
          cases ls with
          | nil => rfl
          | cons x ls =>
            rw [List.length_cons] at z
            omega)
        rw [this]
        rfl
end
end FL

set_option Elab.async false
set_option linter.all false
set_option maxRecDepth 100000
set_option maxHeartbeats 1000000
namespace FL
open PySem PySem.Spec PyProof.Rows L2 PySem.NumText
section
variable {P : Program} {w : World} {K : PySem.W.Frag} {mg : Str → Option Value} {base : Heap} {C fI : Addr}
def spLS (K : PySem.W.Frag) : Sp := fun vs H Q _ => ∃ a ns, vs = [.ref a] ∧ SqL K H a (List.map V.int ns) ∧ ∀ H' c a' ns', Same H H' → Cur H' c a' ns' → Q (.ref c) H'
abbrev s_law_start : Stmt := topS 24
abbrev N_law_start : List Str := ["script", "cell"]
theorem sc_law_start : FnScope N_law_start ["script"] (defScope s_law_start) := ⟨rfl, rfl, rfl, by decide +kernel, rfl, by decide +kernel, by decide +kernel⟩
theorem ok_law_start {f : Addr} {fd : FuncData} (D_law_start : DefAt K mg "_law_start" s_law_start ["script"] f fd) (z_int : mg "int" = none) : FnOk P w K mg base CX0 1 f fd ["script"] (spLS K) := by
  refine D_law_start.F.ok sc_law_start (fun vs H Q E h => ?_) (fun cdv A outer s H vs Q E hr h => ?_)
  · obtain ⟨a, ns, rfl, _⟩ := h
    rfl
  obtain ⟨a, ns, rfl, sq, q⟩ := h
  refine ⟨_, (pss_one (ps_ret (pe_lst (pa_cons (pe_lc (own := [("cell", 1)]) (g := gName 1) (by rfl) sc_law_start.nd (pi_list (pe_slice sl_list (pv 0) po_none (po_some pe_int))) (blkOk_by (own := [("cell", 1)]) (N := N_law_start) (sc := (defScope s_law_start)) (by decide +kernel)) (fun _ _ _ _ _ => (pg_name (i := 1) sc_law_start.nd rfl (Or.inl rfl))) (fun _ _ _ _ _ => pts_nil) (fun _ _ _ _ _ => (pe_callTy call_int1 (by rfl) z_int (by decide +kernel) (pa_cons (pv 1) pa_nil)))) (pa_cons pe_int (pa_cons pe_int (pa_cons pe_int pa_nil))))))), ?_⟩
  refine ⟨_, rfl, _, rfl, _, _, rfl, sq, fun p np => ?_⟩
  have e : cutV (ns.map V.int) none (some 63) = (ns.take 63).map V.int := by
    unfold cutV
    rw [show (63 : Int) = ((63 : Nat) : Int) from rfl, HT.sIx_nat, HT.sIx_none, List.length_map, List.drop_zero, Nat.sub_zero, List.map_take]
    by_cases h : 63 ≤ ns.length
    · rw [Nat.min_eq_left h]
    · rw [Nat.min_eq_right (by omega), List.take_of_length_le (by simp), List.take_of_length_le (by rw [List.length_map]; omega)]
  rw [e]
  have hz : (ns.take 63).length ≤ 63 := by rw [List.length_take]; omega
  generalize ns.take 63 = zs at hz ⊢
  have s1 : Same H (upd H p (.lst (zs.map V.int))) := same_new (Same.refl H) np
  have hp := upd_same (H := H) (a := p) (o := .lst (zs.map V.int))
  refine ⟨_, rfl, ⟨_, SqL.of hp⟩, fun D nD => ?_⟩
  generalize upd H p (.lst (zs.map V.int)) = H1 at s1 hp nD ⊢
  refine lc_list (xs := zs.map V.int) (fun i H' => Same H1 H' ∧ H' D = some (.lst ((zs.take i).map V.int)) ∧ i ≤ zs.length) ⟨same_new (Same.refl H1) nD, upd_same, Nat.zero_le _⟩ ?_ ?_ ?_
  · rintro i H' hi ⟨s2, hD, _⟩
    exact SqL.of (s2 _ _ hp)
  · rintro i x H' hx ⟨s2, hD, hi⟩
    rw [List.getElem?_map] at hx
    obtain ⟨z, hz0, rfl⟩ := Option.map_eq_some_iff.mp hx
    have lt := (List.getElem?_eq_some_iff.mp hz0).1
    refine ⟨rfl, ?_⟩
    dsimp only [tYes]
    try rw [if_pos rfl]
    refine ⟨_, rfl, .inl ⟨_, rfl, _, hD, ?_, same_mut s2 nD, ?_, lt⟩⟩
    · rw [List.length_map, List.length_take, sizeLine_eq]
      omega
    · rw [upd_same, List.take_succ, hz0, List.map_append]
      rfl
  · rintro H' ⟨s2, hD, _⟩
    rw [List.length_map, List.take_length] at hD
    refine ⟨by show 4 ≤ sizeLine; rw [sizeLine_eq]; decide, fun c nc => q _ c D zs (s1.trans (same_new s2 nc)) ⟨0, 0, 0, ⟨upd_same, ?_, Int.le_refl _, Int.le_refl _⟩⟩⟩
    rw [upd_ne (ne_of_none hD nc)]
    exact hD

theorem len_szs : ∀ ds : List PyData, ds.length ≤ szs ds
  | [] => Nat.le_refl _
  | d :: ds => by
    have h1 := sz_pos d
    have h2 := len_szs ds
    rw [szs, List.length_cons]
    omega
theorem dep_mem {d : PyData} : ∀ {ds : List PyData}, d ∈ ds → dep d ≤ deps ds
  | e :: ds, h => by
    rw [deps]
    rcases List.mem_cons.mp h with rfl | h
    · omega
    · have := dep_mem h
      omega
theorem wr_mem {d : PyData} : ∀ {ds : List PyData}, d ∈ ds → (wr d).length ≤ (wrs ds).flatten.length
  | e :: ds, h => by
    rw [wrs, List.flatten_cons, List.length_append]
    rcases List.mem_cons.mp h with rfl | h
    · omega
    · have := wr_mem h
      omega
def spLM (K : PySem.W.Frag) (n : Nat) : Sp := fun vs H Q _ => ∃ d v, vs = [v] ∧ Rp K H d v ∧ Cl 500 d ∧ dep d < (n : Int) ∧ (wr d).length ≤ 1000000 ∧ ∀ H', Same H H' → Q (.str (S (wr d))) H'
abbrev s_law_written : Stmt := topS 28
abbrev N_law_written : List Str := ["value", "part"]
theorem sc_law_written : FnScope N_law_written ["value"] (defScope s_law_written) := ⟨rfl, rfl, rfl, by decide +kernel, rfl, by decide +kernel, by decide +kernel⟩
theorem step_law_written {n : Nat} {f : Addr} {fd : FuncData} (D_law_written : DefAt K mg "_law_written" s_law_written ["value"] f fd) (z_isinstance : mg "isinstance" = none) (z_str : mg "str" = none) (z_tuple : mg "tuple" = none)
    (G_law_written : FnOk P w K mg base CX0 n f fd ["value"] (spLM K n)) : FnOk P w K mg base CX0 (n + 1) f fd ["value"] (spLM K (n + 1)) := by
  refine D_law_written.F.ok sc_law_written (fun vs H Q E h => ?_) (fun cdv A outer s H vs Q E hr h => ?_)
  · obtain ⟨d, v, rfl, _⟩ := h
    rfl
  obtain ⟨d, v, rfl, r, cl, hdep, hl, q⟩ := h
  refine ⟨_, (pss_cons (ps_if (pt_cmpR op_isN (pv 0) pe_non (nomark _)) (pss_one (ps_ret pe_str))
        pss_nil)
      (pss_cons (ps_if (pt_cmpR op_isB (pv 0) pe_bl (nomark _)) (pss_one (ps_ret pe_str))
        pss_nil)
      (pss_cons (ps_if (pt_cmpR op_isB (pv 0) pe_bl (nomark _)) (pss_one (ps_ret pe_str))
        pss_nil)
      (pss_cons (ps_if (pt_truth (pe_callB call_isi (by rfl) z_isinstance (by decide +kernel) (pa_cons (pv 0) (pa_cons (pe_bltn (v := .ty "str") (by rfl) z_str (by decide +kernel) rfl) pa_nil))) (by intro _; rfl)) (pss_one (ps_ret (pe_op op_add_str (pe_op op_add_str pe_str (pv 0)) pe_str)))
        pss_nil)
      (pss_cons (ps_if (pt_truth (pe_callB call_isi (by rfl) z_isinstance (by decide +kernel) (pa_cons (pv 0) (pa_cons (pe_bltn (v := .ty "tuple") (by rfl) z_tuple (by decide +kernel) rfl) pa_nil))) (by intro _; rfl)) (pss_one (ps_ret (pe_op op_add_str (pe_op op_add_str pe_str (pe_join pe_str (pe_lc (own := [("part", 1)]) (g := gName 1) (by rfl) sc_law_written.nd (pi_tup (pv 0)) (blkOk_by (own := [("part", 1)]) (N := N_law_written) (sc := (defScope s_law_written)) (by decide +kernel)) (fun _ _ _ _ _ => (pg_name (i := 1) sc_law_written.nd rfl (Or.inl rfl))) (fun _ _ _ _ _ => pts_nil) (fun _ _ _ _ _ => (pe_call G_law_written (hr.mono (by first | decide | omega)) (by rfl) D_law_written.m D_law_written.F.kp D_law_written.b .nil pass0 (pa_cons (pv 1) pa_nil)))))) pe_str)))
        pss_nil)
      (pss_one (ps_ret (pe_callTy call_str_int (by rfl) z_str (by decide +kernel) (pa_cons (pv 0) pa_nil))))))))), ?_⟩
  obtain ⟨tn, ty, kt, ks⟩ := r.ty
  have sl := sizeLine_eq
  -- value is None, True, False
  refine ⟨_, rfl, rfl, _, rfl, ite2 (fun e => ?_) (fun e => ?_)⟩
  · have e' : v = .non := of_decide_eq_true e
    cases d with
    | none => exact q H (Same.refl H)
    | bool b => rw [show v = .bl b from r] at e'; cases e'
    | int b => rw [show v = .int b from r] at e'; cases e'
    | str b => rw [show v = .str b from r] at e'; cases e'
    | tuple ds => obtain ⟨a, xs, z, _⟩ := r; rw [z] at e'; cases e'
    | list _ => exact r.elim
    | dict _ => exact r.elim
  refine ⟨_, rfl, _, rfl, _, rfl, ite2 (fun e1 => ?_) (fun e1 => ?_)⟩
  · have e' : v = .bl true := of_decide_eq_true e1
    cases d with
    | none => rw [show v = .non from r] at e'; cases e'
    | bool b =>
      rw [show v = .bl b from r] at e'
      injection e' with e'
      subst e'
      exact q H (Same.refl H)
    | int b => rw [show v = .int b from r] at e'; cases e'
    | str b => rw [show v = .str b from r] at e'; cases e'
    | tuple ds => obtain ⟨a, xs, z, _⟩ := r; rw [z] at e'; cases e'
    | list _ => exact r.elim
    | dict _ => exact r.elim
  refine ⟨_, rfl, _, rfl, _, rfl, ite2 (fun e2 => ?_) (fun e2 => ?_)⟩
  · have e' : v = .bl false := of_decide_eq_true e2
    cases d with
    | none => rw [show v = .non from r] at e'; cases e'
    | bool b =>
      rw [show v = .bl b from r] at e'
      injection e' with e'
      subst e'
      exact q H (Same.refl H)
    | int b => rw [show v = .int b from r] at e'; cases e'
    | str b => rw [show v = .str b from r] at e'; cases e'
    | tuple ds => obtain ⟨a, xs, z, _⟩ := r; rw [z] at e'; cases e'
    | list _ => exact r.elim
    | dict _ => exact r.elim
  refine ⟨_, rfl, _, _, _, _, _, rfl, .ty "str", ty, ks, ?_⟩
  cases d with
  | none => rw [show v = .non from r] at e; exact absurd rfl e
  | bool b =>
    rw [show v = .bl b from r] at e1 e2
    cases b
    · exact absurd rfl e2
    · exact absurd rfl e1
  | int i =>
    rw [show v = .int i from r] at ty ⊢
    refine ⟨_, rfl, ite2 (fun e => nomatch e) (fun _ => ?_)⟩
    refine ⟨_, rfl, _, _, _, _, _, rfl, .ty "tuple", ty, kt, ?_⟩
    refine ⟨_, rfl, ite2 (fun e => nomatch e) (fun _ => ?_)⟩
    refine ⟨_, rfl, _, rfl, log_ok cl, ?_⟩
    have := q H (Same.refl H)
    rw [str_int]
    exact this
  | str x =>
    have hx : (wr (.str x)).length = x.cps.toList.length + 2 := by show (34 :: x.cps.toList ++ [34]).length = _; simp
    have hx2 : x.length = x.cps.toList.length := (Array.length_toList).symm
    rw [show v = .str x from r]
    refine ⟨_, rfl, ite2 (fun _ => ?_) (fun e => absurd rfl e)⟩
    refine ⟨_, rfl, _, _, rfl, rfl, ?_, _, _, rfl, rfl, ?_, ?_⟩
    · show 1 + x.length ≤ sizeLine
      omega
    · rw [show Str.ofString "\"" = S [34] from rfl, ← S_of x, S_app, S_len]
      show (34 :: x.cps.toList).length + 1 ≤ sizeLine
      rw [List.length_cons]
      omega
    · have t : S [34] ++ x ++ S [34] = S (wr (.str x)) := by
        rw [← S_of x, S_app, S_app, S_of]
        rfl
      have := q H (Same.refl H)
      rw [← t] at this
      exact this
  | tuple ds =>
    obtain ⟨a, xs, rfl, sq, rp⟩ := r
    have xl := rp.len
    refine ⟨_, rfl, ite2 (fun e => nomatch e) (fun _ => ?_)⟩
    refine ⟨_, rfl, _, _, _, _, _, rfl, .ty "tuple", ty, kt, ?_⟩
    refine ⟨_, rfl, ite2 (fun _ => ?_) (fun e => absurd rfl e)⟩
    have h1 := jn_len' ds
    have h2 : (wr (.tuple ds)).length = (jn [32] (wrs ds)).length + 2 := by show (40 :: jn [32] (wrs ds) ++ [41]).length = _; simp
    have h3 := szs_le ds cl
    have h4 := len_szs ds
    refine ⟨⟨_, rfl⟩, _, rfl, _, rfl, ⟨_, sq⟩, fun D nD => ?_⟩
    refine lc_tup (xs := xs) (fun i H' => Same H H' ∧ H' D = some (.lst (((wrs (ds.take i)).map S).map V.str)) ∧ i ≤ ds.length) ⟨same_new (Same.refl H) nD, upd_same, Nat.zero_le _⟩ ?_ ?_ ?_
    · rintro i H' hi ⟨s2, hD, _⟩
      exact (Tk.same s2) _ _ sq
    · rintro i x H' hx ⟨s2, hD, hi⟩
      have lt := (List.getElem?_eq_some_iff.mp hx).1
      have lt2 : i < ds.length := by omega
      have hg := List.getElem?_eq_getElem lt2
      obtain ⟨v, hv, rv⟩ := rp.get hg
      rw [hx] at hv
      injection hv with hv
      subst hv
      refine ⟨rfl, ?_⟩
      dsimp only [tYes]
      try rw [if_pos rfl]
      refine ⟨_, rfl, ds[i], x, rfl, rv.tk (Tk.same s2), Cls.mem cl _ (List.getElem_mem lt2), ?_, ?_, fun H2 s3 => ?_⟩
      · have h5 := dep_mem (List.getElem_mem lt2)
        have h6 : dep (.tuple ds) = 1 + deps ds := by rw [dep]
        omega
      · have h5 := wr_mem (List.getElem_mem lt2)
        omega
      · have hD2 := s3 _ _ hD
        refine ⟨_, hD2, ?_, same_mut (s2.trans s3) nD, ?_, lt2⟩
        · rw [List.length_map, List.length_map, wrs_map, List.length_map, List.length_take]
          omega
        · rw [upd_same, List.take_succ, hg, wrs_map, wrs_map, List.map_append, List.map_append, List.map_append]
          rfl
    · rintro H' ⟨s2, hD, _⟩
      rw [xl, List.take_length] at hD
      refine ⟨S [32], D, (wrs ds).map S, rfl, rfl, .inl (SqL.of hD), ?_, ?_⟩
      · rw [sum_S, List.length_map, wrs_map, List.length_map, ← wrs_map]
        show (wrs ds).flatten.length + ds.length * 1 ≤ 16777216
        omega
      · rw [join_txt]
        refine ⟨_, _, rfl, rfl, ?_, _, _, rfl, rfl, ?_, ?_⟩
        · show 1 + (jn [32] (wrs ds)).length ≤ sizeLine
          omega
        · rw [show Str.ofString "(" = S [40] from rfl, S_app, S_len]
          show (40 :: jn [32] (wrs ds)).length + 1 ≤ sizeLine
          rw [List.length_cons]
          omega
        · rw [show Str.ofString "(" = S [40] from rfl, show Str.ofString ")" = S [41] from rfl, S_app, S_app]
          exact q _ s2
  | list _ => exact r.elim
  | dict _ => exact r.elim
theorem ok_law_written {f : Addr} {fd : FuncData} (D_law_written : DefAt K mg "_law_written" s_law_written ["value"] f fd) (z_isinstance : mg "isinstance" = none) (z_str : mg "str" = none) (z_tuple : mg "tuple" = none) :
    ∀ n : Nat, FnOk P w K mg base CX0 n f fd ["value"] (spLM K n)
  | 0 => none_left (b := true) fun vs H Q E h => by
      obtain ⟨d, _, _, _, _, h, _⟩ := h
      have := dep_nn d
      omega
  | n + 1 => step_law_written D_law_written z_isinstance z_str z_tuple (ok_law_written D_law_written z_isinstance z_str z_tuple n)
def spValue (K : PySem.W.Frag) (n : Nat) : Sp := fun vs H Q _ => ∃ (c a : Addr) (ns : List Int) (m : Nat), vs = [.ref c, .int m] ∧ m < n ∧ n ≤ 100 ∧ Cur H c a ns ∧ ∀ H' v d, But c H H' → Cur H' c a ns → Rp K H' d v → Good m d → Q v H'
abbrev s_law_value : Stmt := topS 27
abbrev N_law_value : List Str := ["c", "depth", "k", "letters", "j"]
theorem sc_law_value : FnScope N_law_value ["c", "depth"] (defScope s_law_value) := ⟨rfl, rfl, rfl, by decide +kernel, rfl, by decide +kernel, by decide +kernel⟩
theorem step_law_value {n : Nat} {f f1 : Addr} {fd fd1 : FuncData} (D_law_value : DefAt K mg "_law_value" s_law_value ["c", "depth"] f fd) (D_law_take : DefAt K mg "_law_take" s_law_take ["c", "many"] f1 fd1)
    (G_law_take : FnOk P w K mg base CX0 2 f1 fd1 ["c", "many"] spTake) (z_range : mg "range" = none) (z_tuple : mg "tuple" = none)
    (G_law_value : FnOk P w K mg base CX0 (n + 3) f fd ["c", "depth"] (spValue K n)) : FnOk P w K mg base CX0 (n + 4) f fd ["c", "depth"] (spValue K (n + 1)) := by
  refine D_law_value.F.ok sc_law_value (fun vs H Q E h => ?_) (fun cdv A outer s H vs Q E hr h => ?_)
  · obtain ⟨c, a, ns, m, rfl, _⟩ := h
    rfl
  obtain ⟨c, a, ns, m, rfl, hm, hn, hC, q⟩ := h
  refine ⟨_, (pss_cons (ps_set (i := 2) sc_law_value.nd rfl (Or.inl rfl) (pe_call G_law_take (hr.mono (by first | decide | omega)) (by rfl) D_law_take.m D_law_take.F.kp D_law_take.b .nil pass0 (pa_cons (pv 0) (pa_cons pe_int pa_nil))))
      (pss_cons (ps_if (PW.pt (pw_and (pt_cmpR op_gt (pv 1) pe_int (nomark _)) (pw_and1 (pt_cmpR op_lt (pv 2) pe_int (nomark _))))) (pss_one (ps_ret (pe_callTy call_tuple_of (by rfl) z_tuple (by decide +kernel) (pa_cons (pe_lc (own := [("j", 4)]) (g := gName 4) (by rfl) sc_law_value.nd (pi_range1 (by rfl) z_range (pa_cons (pe_call G_law_take (hr.mono (by first | decide | omega)) (by rfl) D_law_take.m D_law_take.F.kp D_law_take.b .nil pass0 (pa_cons (pv 0) (pa_cons pe_int pa_nil))) pa_nil)) (blkOk_by (own := [("j", 4)]) (N := N_law_value) (sc := (defScope s_law_value)) (by decide +kernel)) (fun _ _ _ _ _ => (pg_name (i := 4) sc_law_value.nd rfl (Or.inl rfl))) (fun _ _ _ _ _ => pts_nil) (fun _ _ _ _ _ => (pe_call G_law_value (hr.mono (by first | decide | omega)) (by rfl) D_law_value.m D_law_value.F.kp D_law_value.b .nil pass0 (pa_cons (pv 0) (pa_cons (pe_op op_sub (pv 1) pe_int) pa_nil))))) pa_nil))))
        pss_nil)
      (pss_cons (ps_if (pt_cmpR op_lt (pv 2) pe_int (nomark _)) (pss_one (ps_ret (pe_ix ix_list (pe_lst (pa_cons (pe_call G_law_take (hr.mono (by first | decide | omega)) (by rfl) D_law_take.m D_law_take.F.kp D_law_take.b .nil pass0 (pa_cons (pv 0) (pa_cons pe_int pa_nil))) (pa_cons (pe_op op_sub (pe_op op_sub pe_int pe_int) (pe_call G_law_take (hr.mono (by first | decide | omega)) (by rfl) D_law_take.m D_law_take.F.kp D_law_take.b .nil pass0 (pa_cons (pv 0) (pa_cons pe_int pa_nil)))) (pa_cons (pe_op op_add (pe_op op_pow pe_int pe_int) (pe_call G_law_take (hr.mono (by first | decide | omega)) (by rfl) D_law_take.m D_law_take.F.kp D_law_take.b .nil pass0 (pa_cons (pv 0) (pa_cons pe_int pa_nil)))) pa_nil)))) (pe_call G_law_take (hr.mono (by first | decide | omega)) (by rfl) D_law_take.m D_law_take.F.kp D_law_take.b .nil pass0 (pa_cons (pv 0) (pa_cons pe_int pa_nil))) (fun _ _ => rfl))))
        pss_nil)
      (pss_cons (ps_if (pt_cmpR op_lt (pv 2) pe_int (nomark _)) (pss_cons (ps_set (i := 3) sc_law_value.nd rfl (Or.inr rfl) pe_str)
        (pss_one (ps_ret (pe_join pe_str (pe_lc (own := [("j", 4)]) (g := gName 4) (by rfl) sc_law_value.nd (pi_range1 (by rfl) z_range (pa_cons (pe_call G_law_take (hr.mono (by first | decide | omega)) (by rfl) D_law_take.m D_law_take.F.kp D_law_take.b .nil pass0 (pa_cons (pv 0) (pa_cons pe_int pa_nil))) pa_nil)) (blkOk_by (own := [("j", 4)]) (N := N_law_value) (sc := (defScope s_law_value)) (by decide +kernel)) (fun _ _ _ _ _ => (pg_name (i := 4) sc_law_value.nd rfl (Or.inl rfl))) (fun _ _ _ _ _ => pts_nil) (fun _ _ _ _ _ => (pe_ix ix_str (pv 3) (pe_call G_law_take (hr.mono (by first | decide | omega)) (by rfl) D_law_take.m D_law_take.F.kp D_law_take.b .nil pass0 (pa_cons (pv 0) (pa_cons pe_int pa_nil))) (fun _ _ => rfl))))))))
        pss_nil)
      (pss_one (ps_ret (pe_ix ix_list (pe_lst (pa_cons pe_bl (pa_cons pe_bl (pa_cons pe_non pa_nil)))) (pe_call G_law_take (hr.mono (by first | decide | omega)) (by rfl) D_law_take.m D_law_take.F.kp D_law_take.b .nil pass0 (pa_cons (pv 0) (pa_cons pe_int pa_nil))) (fun _ _ => rfl)))))))), ?_⟩
  -- k = _law_take(c, 8)
  refine ⟨_, rfl, c, a, ns, _, rfl, hC, (by decide), (by decide), fun H1 k b1 c1 k0 k1 => ?_⟩
  -- if depth > 0 and k < 4
  refine ⟨_, rfl, _, _, rfl, rfl, _, rfl, ite2 (fun e => ⟨_, rfl, _, _, rfl, rfl, _, rfl, ite2 (fun e2 => ?_) (fun e2 => ?_)⟩) (fun e => ite2 (fun e2 => absurd e2 (by simp)) (fun e2 => ?_))⟩
  · -- return tuple([_law_value(c, depth - 1) for j in range(_law_take(c, 5))])
    have e' : 0 < (m : Int) := of_decide_eq_true e
    obtain ⟨m', rfl⟩ : ∃ m', m = m' + 1 := ⟨m - 1, by omega⟩
    refine ⟨_, rfl, c, a, ns, _, rfl, c1, (by decide), (by decide), fun H2 t b2 c2 t0 t1 => ?_⟩
    refine ⟨_, rfl, by omega, by omega, fun D nD => ?_⟩
    have b12 := b1.trans b2
    have hD := c2.back b12 nD
    have nDc := c2.ne nD
    refine lc_range (lo := 0) (n := t.toNat) (fun i H3 => ∃ vs ds, H3 D = some (.lst vs) ∧ vs.length = i ∧ RpAll K H3 ds vs ∧ GoodAll m' ds ∧ Cur H3 c a ns ∧ But c H H3)
      ⟨[], [], upd_same, rfl, rfl, True.intro, c2.new nD, b12.new nD⟩ ?_ ?_
    · rintro i H3 hi ⟨vs, ds, hv, hl, hr3, hg, c3, b3⟩
      refine ⟨rfl, ?_⟩
      dsimp only [tYes]
      try rw [if_pos rfl]
      refine ⟨_, rfl, _, rfl, _, _, rfl, rfl, c, a, ns, m', ?_, by omega, by omega, c3, fun H4 v d b4 c4 r4 g4 => ?_⟩
      · show [V.ref c, V.int (((m' + 1 : Nat) : Int) - 1)] = [V.ref c, V.int (m' : Int)]
        rw [show ((m' + 1 : Nat) : Int) - 1 = (m' : Int) by omega]
      have hv4 : H4 D = some (.lst vs) := b4 _ _ nDc.1 hv
      have tk5 : Tk K H4 (upd H4 D (.lst (vs ++ [v]))) := Tk.mut hv4
      refine ⟨vs, hv4, Nat.lt_of_lt_of_le (by omega : vs.length < 100) (by rw [sizeLine_eq]; decide), vs ++ [v], ds ++ [d], upd_same, by simp [hl], RpAll.snoc (Rp.tk tk5 _ _ r4) (RpAll.tk ((c3.tk b4).trans tk5) _ _ hr3), GoodAll.snoc g4 hg, c4.upd nDc, (b3.trans b4).mut hD⟩
    · rintro H3 ⟨vs, ds, hv, hl, hr3, hg, c3, b3⟩
      refine ⟨_, _, rfl, .inl ⟨SqL.of hv, fun l nl => ?_⟩⟩
      have sm : Same H3 (upd H3 l (.tup vs)) := same_new (Same.refl H3) nl
      refine q _ _ (.tuple ds) (b3.new nl) (c3.new nl) ⟨l, vs, rfl, SqT.of upd_same, RpAll.tk (Tk.same sm) _ _ hr3⟩ ⟨m', rfl, ?_, hg⟩
      have := hr3.len
      omega
  all_goals
    -- if k < 5: return _law_integer(c)
    refine ⟨_, rfl, _, _, rfl, rfl, _, rfl, ite2 (fun e3 => ?_) (fun e3 => ?_)⟩
    · refine ⟨_, rfl, c, a, ns, _, rfl, c1, (by decide), (by decide), fun H2 x2 b2 c2 p2 q2 => ?_⟩
      refine ⟨_, _, rfl, rfl, _, rfl, c, a, ns, _, rfl, c2, (by decide), (by decide), fun H3 x3 b3 c3 p3 q3 => ?_⟩
      refine ⟨_, _, rfl, rfl, _, _, rfl, rfl, ⟨by decide, by decide, by decide⟩, _, rfl, c, a, ns, _, rfl, c3, (by decide), (by decide), fun H4 x4 b4 c4 p4 q4 => ?_⟩
      refine ⟨_, _, rfl, rfl, ?_⟩
      refine ⟨by show 3 ≤ sizeLine; decide, fun p np => ?_⟩
      refine ⟨_, rfl, c, a, ns, _, rfl, c4.new np, (by decide), (by decide), fun H5 x5 b5 c5 p5 q5 => ?_⟩
      have hp := b5 _ _ (c4.ne np).1 (upd_same (H := H4))
      have b15 : But c H H5 := (((b1.trans (b2.trans (b3.trans b4))).new np).trans b5)
      have at3 : ∃ n : Int, atI [V.int x2, V.int (0 - 1 - x3), V.int (10 ^ 17 + x4)] x5 = some (.int n) ∧ n.natAbs < 10 ^ 41 := by
        have hk : x5 = 0 ∨ x5 = 1 ∨ x5 = 2 := by omega
        rcases hk with rfl | rfl | rfl
        · exact ⟨x2, rfl, by omega⟩
        · exact ⟨_, rfl, by omega⟩
        · exact ⟨_, rfl, by omega⟩
      obtain ⟨n, hn, hn2⟩ := at3
      exact ⟨p, _, x5, _, rfl, rfl, SqL.of hp, hn, q _ _ (.int n) b15 c5 rfl hn2⟩
    -- if k < 7
    refine ⟨_, rfl, _, _, rfl, rfl, _, rfl, ite2 (fun e4 => ?_) (fun e4 => ?_)⟩
    · refine ⟨⟨_, rfl⟩, ?_⟩
      refine ⟨_, rfl, c, a, ns, _, rfl, c1, (by decide), (by decide), fun H2 t b2 c2 t0 t1 => ?_⟩
      refine ⟨_, rfl, by omega, by omega, fun D nD => ?_⟩
      have b12 := b1.trans b2
      have hD := c2.back b12 nD
      have nDc := c2.ne nD
      refine lc_range (lo := 0) (n := t.toNat) (fun i H3 => ∃ zs : List Nat, H3 D = some (.lst (((zs.map fun z => [z]).map S).map V.str)) ∧ zs.length = i ∧ (∀ z ∈ zs, z ∈ lawLetters) ∧ Cur H3 c a ns ∧ But c H H3)
        ⟨[], upd_same, rfl, (fun _ h => nomatch h), c2.new nD, b12.new nD⟩ ?_ ?_
      · rintro i H3 hi ⟨zs, hv, hl, hz, c3, b3⟩
        refine ⟨rfl, ?_⟩
        dsimp only [tYes]
        try rw [if_pos rfl]
        refine ⟨_, rfl, _, rfl, c, a, ns, _, rfl, c3, (by decide), (by decide), fun H4 x b4 c4 x0 x1 => ?_⟩
        have hv4 := b4 _ _ nDc.1 hv
        have at10 : ∃ z ∈ lawLetters, atI (Str.ofString "abc xyzABZ").cps.toList x = some z := by
          have hx : x = 0 ∨ x = 1 ∨ x = 2 ∨ x = 3 ∨ x = 4 ∨ x = 5 ∨ x = 6 ∨ x = 7 ∨ x = 8 ∨ x = 9 := by omega
          rcases hx with rfl | rfl | rfl | rfl | rfl | rfl | rfl | rfl | rfl | rfl
          · exact ⟨97, by decide, by decide +kernel⟩
          · exact ⟨98, by decide, by decide +kernel⟩
          · exact ⟨99, by decide, by decide +kernel⟩
          · exact ⟨32, by decide, by decide +kernel⟩
          · exact ⟨120, by decide, by decide +kernel⟩
          · exact ⟨121, by decide, by decide +kernel⟩
          · exact ⟨122, by decide, by decide +kernel⟩
          · exact ⟨65, by decide, by decide +kernel⟩
          · exact ⟨66, by decide, by decide +kernel⟩
          · exact ⟨90, by decide, by decide +kernel⟩
        obtain ⟨z, hzl, hza⟩ := at10
        refine ⟨_, _, z, rfl, rfl, (by decide +kernel), hza, _, hv4, ?_, zs ++ [z], ?_, by simp [hl], ?_, c4.upd nDc, (b3.trans b4).mut hD⟩
        · rw [List.length_map, List.length_map, List.length_map, sizeLine_eq]
          omega
        · rw [upd_same, List.map_append, List.map_append, List.map_append]
          rfl
        · intro y hy
          rcases List.mem_append.mp hy with hy | hy
          · exact hz y hy
          · rw [List.mem_singleton.mp hy]; exact hzl
      · rintro H3 ⟨zs, hv, hl, hz, c3, b3⟩
        refine ⟨S [], D, (zs.map fun z => [z]).map S, rfl, rfl, .inl (SqL.of hv), ?_, ?_⟩
        · rw [sum_S, flat_one]
          show zs.length + _ * 0 ≤ _
          omega
        · rw [join_txt, jn_nil, flat_one]
          exact q _ _ (.str (S zs)) b3 c3 rfl ⟨by show zs.length ≤ 6; omega, hz⟩
    -- return [True, False, None][_law_take(c, 3)]
    · refine ⟨by show 3 ≤ sizeLine; decide, fun p np => ?_⟩
      refine ⟨_, rfl, c, a, ns, _, rfl, c1.new np, (by decide), (by decide), fun H2 x b2 c2 x0 x1 => ?_⟩
      have ha := b2 _ _ (c1.ne np).1 (upd_same (H := H1))
      have hx : x = 0 ∨ x = 1 ∨ x = 2 := by omega
      rcases hx with rfl | rfl | rfl
      · exact ⟨p, _, 0, .bl true, rfl, rfl, SqL.of ha, rfl, q _ _ (.bool true) ((b1.new np).trans b2) c2 rfl True.intro⟩
      · exact ⟨p, _, 1, .bl false, rfl, rfl, SqL.of ha, rfl, q _ _ (.bool false) ((b1.new np).trans b2) c2 rfl True.intro⟩
      · exact ⟨p, _, 2, .non, rfl, rfl, SqL.of ha, rfl, q _ _ .none ((b1.new np).trans b2) c2 rfl True.intro⟩
theorem ok_law_value {f f1 : Addr} {fd fd1 : FuncData} (D_law_value : DefAt K mg "_law_value" s_law_value ["c", "depth"] f fd) (D_law_take : DefAt K mg "_law_take" s_law_take ["c", "many"] f1 fd1)
    (G_law_take : FnOk P w K mg base CX0 2 f1 fd1 ["c", "many"] spTake) (z_range : mg "range" = none) (z_tuple : mg "tuple" = none) :
    ∀ n : Nat, FnOk P w K mg base CX0 (n + 3) f fd ["c", "depth"] (spValue K n)
  | 0 => (none_left (f := f) (fd := fd) (b := true) fun vs H Q E h => by
      obtain ⟨_, _, _, _, _, h, _⟩ := h
      omega).mono (Nat.zero_le _)
  | n + 1 => step_law_value D_law_value D_law_take G_law_take z_range z_tuple (ok_law_value D_law_value D_law_take G_law_take z_range z_tuple n)
end
end FL

set_option Elab.async false
set_option linter.all false
set_option maxRecDepth 10000
set_option maxHeartbeats 1000000
/-! #### the strict reader, which refuses at once what is not written so -/
namespace FL
open PySem PySem.NumText
def sturn (L : List (List PyData)) (rdy : Bool) (c : Nat) (r : List Nat) : Option (List (List PyData) × Bool × List Nat) :=
  if c = 41 then (match L with | top :: nx :: ls => if rdy = true ∧ top ≠ [] then none else some (push (nx :: ls) (.tuple top), false, r) | _ => none)
  else if c = 32 then (if rdy = true ∨ L.length < 2 then none else some (L, true, r))
  else if rdy = false then none
  else if c = 40 then some ([] :: L, true, r)
  else if c = 34 then (match r.dropWhile isLet with | 34 :: r' => some (push L (.str (S (r.takeWhile isLet))), false, r') | _ => none)
  else (match rWord ((c :: r).takeWhile fun x => !isSep x) with | some d => some (push L d, false, (c :: r).dropWhile fun x => !isSep x) | none => none)
/-- a turn of the strict reader is a turn of the other -/
theorem sturn_turn {L L' : List (List PyData)} {rdy rdy' : Bool} {c : Nat} {r t : List Nat} (h : sturn L rdy c r = some (L', rdy', t)) : turn L c r = .go L' t := by
  unfold sturn at h
  unfold turn
  by_cases h1 : c = 41
  · rw [if_pos h1] at h
    rw [if_neg (by omega), if_pos h1]
    match L, h with
    | top :: nx :: ls, h =>
      simp only at h
      split at h
      · cases h
      · injection h with h
        injection h with e1 h
        injection h with e2 e3
        subst e1 e3
        rfl
  rw [if_neg h1] at h
  by_cases h2 : c = 32
  · rw [if_pos h2] at h
    rw [if_neg (by omega), if_neg h1, if_pos h2]
    split at h
    · cases h
    · injection h with h
      injection h with e1 h
      injection h with e2 e3
      subst e1 e3
      rfl
  rw [if_neg h2] at h
  split at h
  · cases h
  by_cases h3 : c = 40
  · rw [if_pos h3] at h
    rw [if_pos h3]
    injection h with h
    injection h with e1 h
    injection h with e2 e3
    subst e1 e3
    rfl
  rw [if_neg h3] at h
  rw [if_neg h3, if_neg h1, if_neg h2]
  by_cases h4 : c = 34
  · rw [if_pos h4] at h
    rw [if_pos h4]
    split at h
    · rename_i r' e
      injection h with h
      injection h with e1 h
      injection h with e2 e3
      subst e1 e3
      first
        | rfl
        | (rw [e]; done)
        | (rw [e]; rfl)
    · cases h
  rw [if_neg h4] at h
  rw [if_neg h4]
  split at h
  · rename_i d e
    injection h with h
    injection h with e1 h
    injection h with e2 e3
    subst e1 e3
    first
      | rfl
      | (rw [e]; done)
      | (rw [e]; rfl)
  · cases h
def sd : Nat → List (List PyData) → Bool → List Nat → Option (List (List PyData))
  | _, L, _, [] => some L
  | 0, _, _, _ :: _ => none
  | n + 1, L, rdy, c :: r => match sturn L rdy c r with | none => none | some (L', rdy', t) => sd n L' rdy' t
theorem sd_turn (n : Nat) (L : List (List PyData)) (rdy : Bool) (c : Nat) (r : List Nat) : sd (n + 1) L rdy (c :: r) = (match sturn L rdy c r with | none => none | some (L', rdy', t) => sd n L' rdy' t) := rfl
theorem sd_fuel : ∀ (n m : Nat) (L : List (List PyData)) (rdy : Bool) (t : List Nat), t.length ≤ n → t.length ≤ m → sd n L rdy t = sd m L rdy t
  | n, m, L, _, [], _, _ => by rw [sd, sd]
  | 0, _, _, _, _ :: _, h, _ => absurd h (by simp)
  | _ + 1, 0, _, _, _ :: _, _, h => absurd h (by simp)
  | n + 1, m + 1, L, rdy, c :: r, h1, h2 => by
    rw [sd_turn, sd_turn]
    cases e : sturn L rdy c r with
    | none => rfl
    | some x =>
      obtain ⟨L', rdy', t⟩ := x
      have := turn_len (sturn_turn e)
      rw [List.length_cons] at h1 h2
      exact sd_fuel n m L' rdy' t (by omega) (by omega)
def SD (L : List (List PyData)) (rdy : Bool) (t : List Nat) : Option (List (List PyData)) := sd t.length L rdy t
theorem SD_nil (L : List (List PyData)) (rdy : Bool) : SD L rdy [] = some L := by unfold SD; rw [sd]
theorem SD_cons (L : List (List PyData)) (rdy : Bool) (c : Nat) (r : List Nat) : SD L rdy (c :: r) = (match sturn L rdy c r with | none => none | some (L', rdy', t) => SD L' rdy' t) := by
  show sd (r.length + 1) L rdy (c :: r) = _
  rw [sd_turn]
  cases e : sturn L rdy c r with
  | none => rfl
  | some x =>
    obtain ⟨L', rdy', t⟩ := x
    exact sd_fuel _ _ _ _ _ (turn_len (sturn_turn e)) (Nat.le_refl _)
def sparse (l : List Nat) : Option PyData := match SD [[]] true l with
  | some [[d]] => if isTup d = true then some d else none
  | _ => none
/-! what it has read is what is written -/
def lev (ds : List PyData) (rdy : Bool) : List Nat := jn [32] (wrs ds) ++ (if rdy = true ∧ ds ≠ [] then [32] else [])
def stx : List (List PyData) → Bool → List Nat
  | [], _ => []
  | [top], rdy => lev top rdy
  | top :: nx :: ls, rdy => stx (nx :: ls) true ++ [40] ++ lev top rdy
theorem jn_snoc (a y : List Nat) : ∀ (xs : List (List Nat)), xs ≠ [] → jn a (xs ++ [y]) = jn a xs ++ a ++ y
  | [], h => absurd rfl h
  | [x], _ => rfl
  | x :: z :: r, _ => by
    show x ++ a ++ jn a ((z :: r) ++ [y]) = x ++ a ++ jn a (z :: r) ++ a ++ y
    rw [jn_snoc a y (z :: r) (List.cons_ne_nil _ _)]
    simp
theorem lev_push (ds : List PyData) (d : PyData) : lev ds true ++ wr d = lev (ds ++ [d]) false := by
  unfold lev
  rw [if_neg (fun h : false = true ∧ _ => nomatch h.1), List.append_nil, wrs_map, wrs_map, List.map_append]
  cases ds with
  | nil => rfl
  | cons e ds =>
    rw [if_pos ⟨rfl, List.cons_ne_nil _ _⟩]
    exact (jn_snoc [32] (wr d) ((e :: ds).map wr) (List.cons_ne_nil _ _)).symm
theorem stx_push {L : List (List PyData)} (hL : L ≠ []) (d : PyData) : stx L true ++ wr d = stx (push L d) false := by
  match L, hL with
  | [top], _ => exact lev_push top d
  | top :: nx :: ls, _ =>
    show stx (nx :: ls) true ++ [40] ++ lev top true ++ wr d = stx (nx :: ls) true ++ [40] ++ lev (top ++ [d]) false
    rw [List.append_assoc _ (lev top true), lev_push]
/-- what the strict reader holds to -/
structure SInv (L : List (List PyData)) (rdy : Bool) : Prop where
  ne : L ≠ []
  top : rdy = false → ∀ top ls, L = top :: ls → top ≠ []
  one : rdy = true → ∀ top, L = [top] → top = []
theorem push_ne {L : List (List PyData)} (h : L ≠ []) (d : PyData) : SInv (push L d) false := by
  cases L with
  | nil => exact absurd rfl h
  | cons top ls =>
    refine ⟨List.cons_ne_nil _ _, fun _ t l e => ?_, fun h => nomatch h⟩
    injection e with e1 _
    rw [← e1]
    simp
theorem rWord_wr {w : List Nat} {d : PyData} (h : rWord w = some d) : wr d = w := by
  unfold rWord at h
  split at h
  · rename_i e; rw [← Option.some.inj h, e]; rfl
  split at h
  · rename_i e; rw [← Option.some.inj h, e]; rfl
  split at h
  · rename_i e; rw [← Option.some.inj h, e]; rfl
  cases q : rInt w with
  | none => rw [q] at h; cases h
  | some i =>
    rw [q] at h
    rw [← Option.some.inj h]
    exact ic_back q
theorem sturn_inv {L L' : List (List PyData)} {rdy rdy' : Bool} {c : Nat} {r t : List Nat} (v : SInv L rdy) (h : sturn L rdy c r = some (L', rdy', t)) : SInv L' rdy' ∧ stx L rdy ++ c :: r = stx L' rdy' ++ t := by
  unfold sturn at h
  by_cases h1 : c = 41
  · rw [if_pos h1] at h
    match L, h, v with
    | top :: nx :: ls, h, v =>
      simp only at h
      split at h
      · cases h
      · rename_i hn
        injection h with h
        injection h with e1 h
        injection h with e2 e3
        subst e1 e2 e3 h1
        refine ⟨push_ne (List.cons_ne_nil _ _) _, ?_⟩
        rw [← stx_push (List.cons_ne_nil _ _)]
        show stx (nx :: ls) true ++ [40] ++ lev top rdy ++ 41 :: r = stx (nx :: ls) true ++ (40 :: jn [32] (wrs top) ++ [41]) ++ r
        unfold lev
        rw [if_neg hn]
        simp
  rw [if_neg h1] at h
  by_cases h2 : c = 32
  · rw [if_pos h2] at h
    split at h
    · cases h
    · rename_i hn
      injection h with h
      injection h with e1 h
      injection h with e2 e3
      subst e1 e2 e3 h2
      have hr : rdy = false := by
        cases rdy with
        | false => rfl
        | true => exact absurd (.inl rfl) hn
      subst hr
      match L, v, hn with
      | [], _, hn => exact absurd (.inr (by simp)) hn
      | [_], _, hn => exact absurd (.inr (by simp)) hn
      | top :: nx :: ls, v, hn =>
        refine ⟨⟨List.cons_ne_nil _ _, fun h => (nomatch h), fun _ t e => (nomatch e)⟩, ?_⟩
        have := v.top rfl top _ rfl
        show stx (nx :: ls) true ++ [40] ++ lev top false ++ 32 :: r = stx (nx :: ls) true ++ [40] ++ lev top true ++ r
        unfold lev
        rw [if_neg (fun h : false = true ∧ _ => nomatch h.1), if_pos ⟨rfl, this⟩]
        simp
  rw [if_neg h2] at h
  split at h
  · cases h
  rename_i hr
  have hr : rdy = true := by
    cases rdy with
    | true => rfl
    | false => exact absurd rfl hr
  subst hr
  by_cases h3 : c = 40
  · rw [if_pos h3] at h
    injection h with h
    injection h with e1 h
    injection h with e2 e3
    subst e1 e2 e3 h3
    match L, v with
    | [], v => exact absurd rfl v.ne
    | nx :: ls, v =>
      refine ⟨⟨List.cons_ne_nil _ _, fun h => (nomatch h), fun _ t e => ?_⟩, ?_⟩
      · injection e with e1 _
        exact e1.symm
      · show stx (nx :: ls) true ++ 40 :: r = stx (nx :: ls) true ++ [40] ++ [] ++ r
        simp
  rw [if_neg h3] at h
  by_cases h4 : c = 34
  · rw [if_pos h4] at h
    split at h
    · rename_i r' e
      injection h with h
      injection h with e1 h
      injection h with e2 e3
      subst e1 e2 e3 h4
      refine ⟨push_ne v.ne _, ?_⟩
      rw [← stx_push v.ne]
      show stx L true ++ 34 :: r = stx L true ++ (34 :: r.takeWhile isLet ++ [34]) ++ _
      conv => lhs; arg 2; arg 2; rw [← List.takeWhile_append_dropWhile (p := isLet) (l := r), e]
      simp
    · cases h
  rw [if_neg h4] at h
  split at h
  · rename_i d e
    injection h with h
    injection h with e1 h
    injection h with e2 e3
    subst e1 e2 e3
    refine ⟨push_ne v.ne _, ?_⟩
    rw [← stx_push v.ne, rWord_wr e, List.append_assoc, List.takeWhile_append_dropWhile]
  · cases h
theorem SD_inv : ∀ (n : Nat) (L L' : List (List PyData)) (rdy : Bool) (t : List Nat), t.length ≤ n → SInv L rdy → SD L rdy t = some L' → RD L t = some L' ∧ ∃ rdy', SInv L' rdy' ∧ stx L rdy ++ t = stx L' rdy'
  | _, L, L', rdy, [], _, v, h => by
    rw [SD_nil] at h
    have := Option.some.inj h
    subst this
    exact ⟨RD_nil L, rdy, v, by rw [List.append_nil]⟩
  | 0, _, _, _, _ :: _, h, _, _ => absurd h (by simp)
  | n + 1, L, L', rdy, c :: r, hn, v, h => by
    rw [SD_cons] at h
    cases e : sturn L rdy c r with
    | none => rw [e] at h; cases h
    | some x =>
      obtain ⟨L1, rdy1, t1⟩ := x
      rw [e] at h
      have e2 := sturn_turn e
      have := turn_len e2
      rw [List.length_cons] at hn
      obtain ⟨v1, s1⟩ := sturn_inv v e
      obtain ⟨h1, rdy2, v2, s2⟩ := SD_inv n L1 L' rdy1 t1 (by omega) v1 h
      refine ⟨?_, rdy2, v2, s1.trans s2⟩
      rw [RD_cons, e2]
      exact h1
theorem sparse_sound {t : List Nat} {d : PyData} (h : sparse t = some d) : parse t = some d := by
  unfold sparse at h
  split at h
  · rename_i d' e
    split at h
    · rename_i ht
      have : d' = d := Option.some.inj h
      subst this
      obtain ⟨h1, rdy, v, s⟩ := SD_inv t.length [[]] [[d']] true t (Nat.le_refl _) ⟨List.cons_ne_nil _ _, fun h => (nomatch h), fun _ t e => by injection e with e _; exact e.symm⟩ e
      have hr : rdy = false := by
        cases rdy with
        | false => rfl
        | true => exact absurd (v.one rfl _ rfl) (by simp)
      subst hr
      have ew : wr d' = t := by
        have : stx [[]] true = [] := rfl
        rw [this, List.nil_append] at s
        rw [s]
        show wr d' = wr d' ++ _
        rw [if_neg (fun h : false = true ∧ _ => nomatch h.1), List.append_nil]
      unfold parse
      rw [h1]
      show (if _ then _ else _) = _
      rw [if_pos ⟨ht, ew⟩]
    · cases h
  · cases h
/-! and what is written it reads -/
theorem push_len {L : List (List PyData)} {d : PyData} : (push L d).length = L.length := by
  cases L <;> rfl
theorem SD_word {top : List PyData} {ls : List (List PyData)} {w r : List Nat} {d : PyData} (h0 : w ≠ []) (hw : ∀ c ∈ w, isSep c = false) (hr : hsep r = true) (hd : rWord w = some d) : SD (top :: ls) true (w ++ r) = SD ((top ++ [d]) :: ls) false r := by
  obtain ⟨h1, h2⟩ := tw_word hw hr
  cases w with
  | nil => exact absurd rfl h0
  | cons c w =>
    have hc := hw c (List.mem_cons_self ..)
    have n1 : c ≠ 40 := fun e => by rw [e] at hc; exact absurd hc (by decide)
    have n2 : c ≠ 41 := fun e => by rw [e] at hc; exact absurd hc (by decide)
    have n3 : c ≠ 32 := fun e => by rw [e] at hc; exact absurd hc (by decide)
    have n4 : c ≠ 34 := fun e => by rw [e] at hc; exact absurd hc (by decide)
    have e : sturn (top :: ls) true c (w ++ r) = some ((top ++ [d]) :: ls, false, r) := by
      unfold sturn
      rw [if_neg n2, if_neg n3, if_neg (by decide), if_neg n1, if_neg n4]
      rw [← List.cons_append, h1, h2, hd]
      rfl
    rw [List.cons_append, SD_cons, e]
mutual
theorem SD_wr {k : Nat} : ∀ (d : PyData), Cl k d → ∀ (top : List PyData) (ls : List (List PyData)) (r : List Nat), hsep r = true → SD (top :: ls) true (wr d ++ r) = SD ((top ++ [d]) :: ls) false r
  | .none, _, top, ls, r, hr => SD_word (w := [45]) (by decide) (by decide) hr rfl
  | .bool true, _, top, ls, r, hr => SD_word (w := [84]) (by decide) (by decide) hr rfl
  | .bool false, _, top, ls, r, hr => SD_word (w := [70]) (by decide) (by decide) hr rfl
  | .int i, _, top, ls, r, hr => SD_word (ic_ne i).1 sep_ic hr (rWord_ic i)
  | .str x, h, top, ls, r, hr => by
    obtain ⟨h1, h2⟩ := tw_let (r := r) h
    have e : sturn (top :: ls) true 34 (x.cps.toList ++ 34 :: r) = some ((top ++ [.str x]) :: ls, false, r) := by
      unfold sturn
      rw [if_neg (by decide), if_neg (by decide), if_neg (by decide), if_neg (by decide), if_pos rfl, h1, h2, S_of]
      rfl
    show SD (top :: ls) true ((34 :: x.cps.toList ++ [34]) ++ r) = _
    rw [List.append_assoc, List.cons_append, SD_cons]
    show (match sturn (top :: ls) true 34 (x.cps.toList ++ 34 :: r) with | none => none | some (L', rdy', t) => SD L' rdy' t) = _
    rw [e]
  | .tuple ds, h, top, ls, r, hr => by
    show SD (top :: ls) true ((40 :: jn [32] (wrs ds) ++ [41]) ++ r) = _
    rw [List.append_assoc, List.cons_append, SD_cons]
    show SD ([] :: top :: ls) true (jn [32] (wrs ds) ++ 41 :: r) = _
    cases ds with
    | nil => exact SD_cons ([] :: top :: ls) true 41 r
    | cons e ds =>
      rw [SD_wrs (e :: ds) h (List.cons_ne_nil _ _) [] top ls (41 :: r) rfl, SD_cons, List.nil_append]
      rfl
  | .list _, h, _, _, _, _ => h.elim
  | .dict _, h, _, _, _, _ => h.elim
theorem SD_wrs {k : Nat} : ∀ (ds : List PyData), Cls k ds → ds ≠ [] → ∀ (top nx : List PyData) (ls : List (List PyData)) (r : List Nat), hsep r = true → SD (top :: nx :: ls) true (jn [32] (wrs ds) ++ r) = SD ((top ++ ds) :: nx :: ls) false r
  | [], _, h, top, nx, ls, r, hr => absurd rfl h
  | [d], h, _, top, nx, ls, r, hr => SD_wr d h.1 top (nx :: ls) r hr
  | d :: e :: ds, h, _, top, nx, ls, r, hr => by
    show SD (top :: nx :: ls) true ((wr d ++ [32] ++ jn [32] (wrs (e :: ds))) ++ r) = _
    rw [List.append_assoc, List.append_assoc, SD_wr d h.1 top (nx :: ls) _ (by rfl)]
    show SD ((top ++ [d]) :: nx :: ls) false (32 :: (jn [32] (wrs (e :: ds)) ++ r)) = _
    rw [SD_cons]
    show SD ((top ++ [d]) :: nx :: ls) true (jn [32] (wrs (e :: ds)) ++ r) = _
    rw [SD_wrs (e :: ds) h.2 (List.cons_ne_nil _ _) (top ++ [d]) nx ls r hr, List.append_assoc]
    rfl
end
theorem sparse_all {t : List Nat} {d : PyData} (h : parse t = some d) : sparse t = some d := by
  obtain ⟨h1, h2, h3⟩ := parse_some h
  have cl := (RD_one (k := mx t) (Nat.le_refl _) h1).1
  have e := SD_wr d cl [] [] [] rfl
  rw [List.append_nil, SD_nil, List.nil_append, h3] at e
  unfold sparse
  rw [e]
  show (if _ then _ else _) = _
  rw [if_pos h2]
theorem sparse_parse (t : List Nat) : sparse t = parse t := by
  cases h : parse t with
  | some d => exact sparse_all h
  | none =>
    cases h2 : sparse t with
    | none => rfl
    | some d => rw [sparse_sound h2] at h; cases h
end FL

set_option Elab.async false
set_option linter.all false
set_option maxRecDepth 100000
set_option maxHeartbeats 1000000
namespace FL
open PySem PySem.Spec PyProof.Rows L2
section
variable {X : Cx}
/-- text times int -/
theorem op_repS : OpR X (binaryOp .Mult) (fun x y H Q => ∃ (l : List Nat) (k : Nat), x = .str (S l) ∧ y = .int (k : Int) ∧ k < 2 ^ 30 ∧ l.length * k ≤ sizeLine ∧ Q (.str (S (List.replicate k l).flatten)) H) := by
  intro pins s σ H x y v u Q I rx ry h
  obtain ⟨l, k, rfl, rfl, hk, hz, q⟩ := h
  obtain ⟨t, rfl⟩ := rx
  obtain ⟨t', rfl⟩ := ry
  have sl := sizeLine_eq
  refine PySem.P.mul_str ?_ ?_ ?_ ?_
  · have h1 : ¬ ((k : Int) < -(2 ^ 63 : Int)) := by omega
    have h2 : ¬ ((k : Int) ≥ 2 ^ 63) := by omega
    rw [decide_eq_false h1, decide_eq_false h2]
    rfl
  · intro h1 h2 h3
    have hk0 : 0 < k := by omega
    have h4 := Int.mul_le_of_le_ediv (show (0 : Int) < (k : Int) by omega) (Int.le_of_lt_add_one (Int.lt_add_one_of_le (Int.le_refl ((2 ^ 63 - 1) / (k : Int)))))
    have h5 : ((2 ^ 63 - 1) / (k : Int) + 1) ≤ (l.length : Int) := h3
    have h6 : ((2 ^ 63 - 1) / (k : Int) + 1) * (k : Int) ≤ (l.length : Int) * (k : Int) := Int.mul_le_mul_of_nonneg_right h5 (by omega)
    have h7 : (2 ^ 63 - 1 : Int) < ((2 ^ 63 - 1) / (k : Int) + 1) * (k : Int) := Int.lt_ediv_add_one_mul_self _ (by omega)
    have h8 : ((l.length * k : Nat) : Int) ≤ 16777216 := by omega
    rw [Int.natCast_mul] at h8
    omega
  · intro h1 h2
    show decide (l.length * ((k : Nat) : Int).toNat > sizeLine) = false
    rw [Int.toNat_natCast]
    exact decide_eq_false (by omega)
  · by_cases h0 : k = 0
    · subst h0
      rw [if_pos (by decide)]
      exact ⟨by show 0 ≤ sizeLine; omega, .str _, H, I.tok _, ⟨_, rfl⟩, q⟩
    · rw [if_neg (by omega)]
      by_cases h1 : k = 1
      · subst h1
        rw [if_pos (by rfl)]
        refine ⟨.str _, H, I, ⟨_, rfl⟩, ?_⟩
        rw [show (List.replicate 1 l).flatten = l by simp] at q
        exact q
      · by_cases h2 : l = []
        · subst h2
          rw [if_pos (by rw [S_len]; simp)]
          refine ⟨.str _, H, I, ⟨_, rfl⟩, ?_⟩
          rw [show (List.replicate k ([] : List Nat)).flatten = [] by simp] at q
          exact q
        · have h3 : ((k : Int) == 1 || (S l).length == 0) = false := by
            rw [S_len, Bool.or_eq_false_iff]
            refine ⟨?_, ?_⟩
            · rw [beq_eq_false_iff_ne]
              omega
            · rw [beq_eq_false_iff_ne]
              exact fun z => h2 (List.length_eq_zero_iff.mp z)
          rw [h3, if_neg Bool.false_ne_true]
          have fold : ∀ (k : Nat) (a : List Nat), (List.replicate k l.toArray).foldl (· ++ ·) a.toArray = (a ++ (List.replicate k l).flatten).toArray := by
            intro k
            induction k with
            | zero => intro a; simp
            | succ k ih =>
              intro a
              rw [List.replicate_succ, List.replicate_succ, List.foldl_cons, List.flatten_cons]
              rw [show a.toArray ++ l.toArray = (a ++ l).toArray by simp, ih, List.append_assoc]
          have e : (⟨(List.replicate ((k : Nat) : Int).toNat (S l).cps).foldl (· ++ ·) #[]⟩ : Str) = S (List.replicate k l).flatten := by
            have := fold k []
            rw [List.nil_append] at this
            rw [Int.toNat_natCast]
            exact congrArg (fun x => (⟨x⟩ : Str)) this
          rw [e]
          refine ⟨?_, .str _, H, I.tok _, ⟨_, rfl⟩, q⟩
          rw [S_len]
          have : (List.replicate k l).flatten.length = k * l.length := by simp
          rw [this, Nat.mul_comm]
          exact hz
end
section
variable {X : Cx}
/-- what the kit's isinstance asks of the class of an exception -/
structure IsiE (K : PySem.W.Frag) (C : Addr) : Prop where
  hcl : (PySem.W.clsIn K C).isSome = true
  hga : PySem.W.findIn K (.ref C) "__getattribute__" = some (some (.builtin "BaseException.__getattribute__"))
  hgt : PySem.W.findIn K (.ref C) "__getattr__" = some none
  hsub : PySem.W.subIn K (.ref C) (.type "BaseException") = some true
  ha : PySem.W.findIn K (.ref C) "__class__" = some (some (.builtin "object.__class__"))
  hn : PySem.W.specialIn K (.builtin "object.__class__") "__get__" = some (some (.builtin "getset_descriptor.__get__"))
  htk : PySem.W.takesIn K (.builtin "object.__class__") = some true
  hm : PySem.W.mroIn K C (.type "object") = some true
theorem inst_e {a C : Addr} {oe : Obj} {d : Option Addr} {pn pins : List (Addr × Obj)} {σ : L2.St} {H : Hp} {s : Shared} (hz : Zc (.ref C) d oe) (hf : ∃ vs, oe.data = .fields vs) {dd : Addr} {v : V} (ed : d = some dd) (I : L2.Inv (X.suite a ((a, oe) :: pn)) pins σ H s) (ea : H dd = some (.xd [(("line" : Str), v)])) :
    ∃ od, PySem.W.InstAt s.heap a oe C od := by
  subst ed
  obtain ⟨ha, _⟩ := I.pin (a, oe) (List.mem_append_left _ List.mem_cons_self)
  obtain ⟨vs, hd⟩ := hf
  have hx : ObjOk X.prog X.w H s.heap dd (.xd [(("line" : Str), v)]) := I.hok dd _ ea
  obtain ⟨mA, hns, hr⟩ := hx
  obtain ⟨od, ho, hl⟩ := lookIn_ns hns
  exact ⟨some od, ha, hz.1, by unfold PySem.W.notCls; rw [hd] <;> rfl, by rw [hz.2]; exact ho⟩
theorem call_isiE {a C : Addr} {oe : Obj} {cls : Value} {d : Option Addr} {pn : List (Addr × Obj)} (hz : Zc cls d oe) (hf : ∃ vs, oe.data = .fields vs) (F : IsiE X.K C) :
    CallR (X.suite a ((a, oe) :: pn)) (.builtin "isinstance") (fun xs H Q => ∃ (c : V) (u : Value) (b : Bool) (dd : Addr) (v : V), xs = [.ref a, c] ∧ cls = .ref C ∧ d = some dd ∧ H dd = some (.xd [(("line" : Str), v)]) ∧ ClsV c u ∧ PySem.W.kitOne X.K (.ref C) u = some b ∧ Q (.bl b) H) := by
  intro pins s σ H xs us Q I r h
  obtain ⟨c, u, b, dd, v, rfl, ec, ed, ea, k, e, q⟩ := h
  subst ec
  obtain ⟨u1, u2, rfl, r1, r2⟩ := vals2 r
  cases (show u1 = Value.ref a from r1)
  cases k.eq r2
  obtain ⟨od, J⟩ := inst_e hz hf ed I ea
  exact PySem.W.kia_one (PySem.W.kitx_exc F.hcl F.hga F.hgt F.hsub F.ha F.hn F.htk F.hm) I.kIn J e (fun z => nomatch z) fun tk => ⟨.bl b, H, I.tok tk, rfl, q⟩
theorem call_isiET {a C : Addr} {oe : Obj} {cls : Value} {d : Option Addr} {pn : List (Addr × Obj)} (hz : Zc cls d oe) (hf : ∃ vs, oe.data = .fields vs) (F : IsiE X.K C) :
    CallR (X.suite a ((a, oe) :: pn)) (.builtin "isinstance") (fun xs H Q => ∃ (tp : Addr) (cs : List V) (us : List Value) (b : Bool) (dd : Addr) (v : V), xs = [.ref a, .ref tp] ∧ cls = .ref C ∧ d = some dd ∧ H dd = some (.xd [(("line" : Str), v)]) ∧ H tp = some (.tup cs) ∧ Paired ClsV cs us ∧ PySem.W.kitAny X.K (.ref C) us = some b ∧ Q (.bl b) H) := by
  intro pins s σ H xs us Q I r h
  obtain ⟨tp, cs, ws, b, dd, v, rfl, ec, ed, ea, hT, k, e, q⟩ := h
  subst ec
  obtain ⟨u1, u2, rfl, r1, r2⟩ := vals2 r
  cases (show u1 = Value.ref a from r1)
  cases (show u2 = Value.ref tp from r2)
  obtain ⟨od, J⟩ := inst_e hz hf ed I ea
  obtain ⟨_, its, rv, o, h1, h2, n, h3⟩ := (show ObjOk X.prog X.w H s.heap tp (.tup cs) from I.hok tp _ hT)
  have e3 := ClsV.all k rv
  subst e3
  obtain ⟨oc, od2, dt, sl⟩ := o
  simp only at h2 h3
  subst h2 h3
  exact PySem.W.kia_tup (PySem.W.kitx_exc F.hcl F.hga F.hgt F.hsub F.ha F.hn F.htk F.hm) I.kIn J h1 e (fun z => nomatch z) fun tk => ⟨.bl b, H, I.tok tk, rfl, q⟩
end
end FL

set_option Elab.async false
set_option linter.all false
set_option maxRecDepth 100000
set_option maxHeartbeats 1000000
namespace FL
open PySem PySem.Spec PyProof.Rows L2 PySem.NumText
theorem digitsVal_pos {t : List Nat} (h : AllDigits t) (h0 : t ≠ []) (h1 : t.head? ≠ some 48) : digitsVal t ≠ 0 := fun e => by
  have := dg_back h h0 (.inr h1)
  rw [e, show dg 0 = [48] by decide] at this
  rw [← this] at h1
  exact h1 rfl
theorem rInt_neg (u : List Nat) : rInt (45 :: u) = (match rNat u with | some n => if n = 0 then none else some (-(n : Int)) | none => none) := by
  unfold rInt
  rw [if_pos (show (45 :: u).head? = some 45 from rfl)]
  rfl
section
variable {P : Program} {w : World} {K : PySem.W.Frag} {mg : Str → Option Value} {base : Heap} {C fI : Addr}
def spLW (K : PySem.W.Frag) : Sp := fun vs H Q _ => ∃ t : List Nat, vs = [.str (S t)] ∧ t.length ≤ 500 ∧ (∀ d v H' p, rWord t = some d → Same H H' → Rp K H' d v → H' p = some (.lst [v]) → Q (.ref p) H') ∧ (rWord t = none → ∀ H' p, Same H H' → H' p = some (.lst []) → Q (.ref p) H')
abbrev s_law_word_of : Stmt := topS 29
abbrev N_law_word_of : List Str := ["word", "number", "sign"]
theorem sc_law_word_of : FnScope N_law_word_of ["word"] (defScope s_law_word_of) := ⟨rfl, rfl, rfl, by decide +kernel, rfl, by decide +kernel, by decide +kernel⟩
theorem ok_law_word_of {f : Addr} {fd : FuncData} (D_law_word_of : DefAt K mg "_law_word_of" s_law_word_of ["word"] f fd) (z_int : mg "int" = none) : FnOk P w K mg base CX0 1 f fd ["word"] (spLW K) := by
  refine D_law_word_of.F.ok sc_law_word_of (fun vs H Q E h => ?_) (fun cdv A outer s H vs Q E hr h => ?_)
  · obtain ⟨t, rfl, _⟩ := h
    rfl
  obtain ⟨t, rfl, ht, q, b⟩ := h
  refine ⟨_, (pss_cons (ps_if (pt_cmpR op_in_seq (pv 0) (pe_lst (pa_cons pe_str (pa_cons pe_str (pa_cons pe_str pa_nil)))) rfl) (pss_one (ps_ret (pe_lst (pa_cons (pe_ix ix_list (pe_lst (pa_cons pe_non (pa_cons pe_bl (pa_cons pe_bl pa_nil)))) (pe_bm PySem.F.plainAttrs_list PySem.F.slot_list_index PySem.F.type_list_index mt_index (pe_lst (pa_cons pe_str (pa_cons pe_str (pa_cons pe_str pa_nil)))) (pa_cons (pv 0) pa_nil)) (fun _ _ => rfl)) pa_nil))))
        pss_nil)
      (pss_cons (ps_set (i := 1) sc_law_word_of.nd rfl (Or.inl rfl) (pv 0))
      (C8.pss_cut (ps_if (pt_cmpR op_eq (pe_slice sl_str (pv 0) po_none (po_some pe_int)) pe_str (nomark _)) (pss_one (ps_set (i := 1) sc_law_word_of.nd rfl (Or.inl rfl) (pe_slice sl_str (pv 0) (po_some pe_int) po_none)))
        pss_nil)
      (pss_cons (ps_if (PW.pt (pw_or (pt_cmpR op_eq (pv 1) pe_str (nomark _)) (pw_or1 (PW.pt (pw_and (pt_cmpR op_eq (pe_ix ix_str (pv 1) pe_int (fun _ _ => rfl)) pe_str (nomark _)) (pw_and1 (pt_cmpR op_ne (pv 0) pe_str (nomark _)))))))) (pss_one (ps_ret (pe_lst pa_nil)))
        pss_nil)
      (pss_cons (ps_for PassesOwn.never rfl (pi_str (pv 1)) (pg_name (i := 2) sc_law_word_of.nd rfl (Or.inl rfl))
        (pss_one (ps_if (pt_cmpR op_notIn_sign (pv 2) pe_str rfl) (pss_one (ps_ret (pe_lst pa_nil)))
          pss_nil)))
      (pss_one (ps_ret (pe_lst (pa_cons (pe_callTy call_int_str (by rfl) z_int (by decide +kernel) (pa_cons (pv 0) pa_nil)) pa_nil))))))))), ?_⟩
  have sl := sizeLine_eq
  have tl : t.length ≤ sizeLine := by omega
  refine ⟨_, rfl, by show 3 ≤ sizeLine; omega, fun p np => ?_⟩
  refine ⟨p, _, rfl, .inl (SqL.of upd_same), rfl, rfl, _, rfl, ?_⟩
  by_cases c45 : t = [45]
  · subst c45
    refine ite2 (fun _ => ?_) (fun e => absurd (by decide +kernel) e)
    refine ⟨by show 3 ≤ sizeLine; omega, fun p1 np1 => ⟨by show 3 ≤ sizeLine; omega, fun p2 np2 => ?_⟩⟩
    have s1 : Same H (upd H p _) := same_new (Same.refl H) np (o := .lst [V.str (Str.ofString "-"), V.str (Str.ofString "T"), V.str (Str.ofString "F")])
    have s2 := same_new s1 np1 (o := .lst [V.non, V.bl true, V.bl false])
    have s3 := same_new s2 np2 (o := .lst [V.str (Str.ofString "-"), V.str (Str.ofString "T"), V.str (Str.ofString "F")])
    have n12 : p1 ≠ p2 := ne_of_none upd_same np2
    refine ⟨.inl ⟨rfl, _, SqL.of upd_same⟩, _, rfl, p2, _, _, 0, _, rfl, rfl, SqL.of upd_same, rfl, rfl, rfl, (by decide +kernel), (fun m z' hm _ => absurd hm (Nat.not_lt_zero m)), ?_⟩
    refine ⟨p1, _, 0, (.non), rfl, rfl, SqL.of (by rw [upd_ne n12]; exact upd_same), rfl, ?_⟩
    exact ⟨by show 1 ≤ sizeLine; omega, fun p3 np3 => q (.none) (.non) _ p3 rfl (same_new s3 np3) rfl upd_same⟩
  by_cases c84 : t = [84]
  · subst c84
    refine ite2 (fun _ => ?_) (fun e => absurd (by decide +kernel) e)
    refine ⟨by show 3 ≤ sizeLine; omega, fun p1 np1 => ⟨by show 3 ≤ sizeLine; omega, fun p2 np2 => ?_⟩⟩
    have s1 : Same H (upd H p _) := same_new (Same.refl H) np (o := .lst [V.str (Str.ofString "-"), V.str (Str.ofString "T"), V.str (Str.ofString "F")])
    have s2 := same_new s1 np1 (o := .lst [V.non, V.bl true, V.bl false])
    have s3 := same_new s2 np2 (o := .lst [V.str (Str.ofString "-"), V.str (Str.ofString "T"), V.str (Str.ofString "F")])
    have n12 : p1 ≠ p2 := ne_of_none upd_same np2
    refine ⟨.inl ⟨rfl, _, SqL.of upd_same⟩, _, rfl, p2, _, _, 1, _, rfl, rfl, SqL.of upd_same, rfl, rfl, rfl, (by decide +kernel), (fun m z' hm e => by
      have : m = 0 := by omega
      subst this; cases e; decide +kernel), ?_⟩
    refine ⟨p1, _, 1, (.bl true), rfl, rfl, SqL.of (by rw [upd_ne n12]; exact upd_same), rfl, ?_⟩
    exact ⟨by show 1 ≤ sizeLine; omega, fun p3 np3 => q (.bool true) (.bl true) _ p3 rfl (same_new s3 np3) rfl upd_same⟩
  by_cases c70 : t = [70]
  · subst c70
    refine ite2 (fun _ => ?_) (fun e => absurd (by decide +kernel) e)
    refine ⟨by show 3 ≤ sizeLine; omega, fun p1 np1 => ⟨by show 3 ≤ sizeLine; omega, fun p2 np2 => ?_⟩⟩
    have s1 : Same H (upd H p _) := same_new (Same.refl H) np (o := .lst [V.str (Str.ofString "-"), V.str (Str.ofString "T"), V.str (Str.ofString "F")])
    have s2 := same_new s1 np1 (o := .lst [V.non, V.bl true, V.bl false])
    have s3 := same_new s2 np2 (o := .lst [V.str (Str.ofString "-"), V.str (Str.ofString "T"), V.str (Str.ofString "F")])
    have n12 : p1 ≠ p2 := ne_of_none upd_same np2
    refine ⟨.inl ⟨rfl, _, SqL.of upd_same⟩, _, rfl, p2, _, _, 2, _, rfl, rfl, SqL.of upd_same, rfl, rfl, rfl, (by decide +kernel), (fun m z' hm e => by
      have : m = 0 ∨ m = 1 := by omega
      rcases this with rfl | rfl <;> cases e <;> decide +kernel), ?_⟩
    refine ⟨p1, _, 2, (.bl false), rfl, rfl, SqL.of (by rw [upd_ne n12]; exact upd_same), rfl, ?_⟩
    exact ⟨by show 1 ≤ sizeLine; omega, fun p3 np3 => q (.bool false) (.bl false) _ p3 rfl (same_new s3 np3) rfl upd_same⟩
  have e : rWord t = (rInt t).map .int := by unfold rWord; rw [if_neg c45, if_neg c84, if_neg c70]
  have ns : ∀ k, t ≠ [k] → ∀ x : Str, x = S [k] → (x == S t) = false := fun k h x hx => by
    rw [hx]
    refine beq_eq_false_iff_ne.mpr fun z => h (S_inj z).symm
  have no : inV (V.str (S t)) [V.str (Str.ofString "-"), V.str (Str.ofString "T"), V.str (Str.ofString "F")] = false := by
    show ((Str.ofString "-" == S t) || ((Str.ofString "T" == S t) || ((Str.ofString "F" == S t) || false))) = false
    rw [ns 45 c45 (Str.ofString "-") rfl, ns 84 c84 (Str.ofString "T") rfl, ns 70 c70 (Str.ofString "F") rfl]
    rfl
  rw [if_neg Bool.false_ne_true, no]
  refine ite2 (fun e => nomatch e) (fun _ => ?_)
  have s1 : Same H (upd H p _) := same_new (Same.refl H) np (o := .lst [V.str (Str.ofString "-"), V.str (Str.ofString "T"), V.str (Str.ofString "F")])
  show tSeq _ _ _ _ (upd H p (.lst [V.str (Str.ofString "-"), V.str (Str.ofString "T"), V.str (Str.ofString "F")]))
  generalize upd H p (.lst [V.str (Str.ofString "-"), V.str (Str.ofString "T"), V.str (Str.ofString "F")]) = H1 at s1 ⊢
  refine ⟨_, rfl, ?_⟩
  -- if word[:1] == '-'
  refine ⟨fun σ' H' => ∃ u : List Nat, σ' = [some (.str (S t)), some (.str (S u)), none] ∧ H' = H1 ∧ (t = 45 :: u ∨ (t.head? ≠ some 45 ∧ u = t)), ?_, ?_⟩
  · refine ⟨_, rfl, _, rfl, _, rfl, tl, ?_⟩
    rw [show (1 : Int) = ((1 : Nat) : Int) from rfl, cut_to]
    refine ⟨rfl, _, rfl, ite2 (fun e => ?_) (fun e => ?_)⟩
    · have e1 := word_is (k := 45) (of_decide_eq_true e)
      refine ⟨_, rfl, _, rfl, _, rfl, tl, ?_⟩
      rw [cut_from]
      refine ⟨t.drop 1, rfl, rfl, .inl ?_⟩
      cases t with
      | nil => cases e1
      | cons c r =>
        have : c = 45 := by simpa using e1
        rw [this]; rfl
    · refine ⟨t, rfl, rfl, .inr ⟨fun z => e (decide_eq_true ?_), rfl⟩⟩
      cases t with
      | nil => cases z
      | cons c r =>
        have : c = 45 := by simpa using z
        rw [this]; rfl
  rintro σ' H' ⟨u, rfl, e0, hu⟩
  obtain rfl := e0.symm
  have ul : u.length ≤ t.length := by
    rcases hu with rfl | ⟨_, rfl⟩
    · rw [List.length_cons]; omega
    · exact Nat.le_refl _
  have us : u.length ≤ sizeLine := by omega
  -- what the number's text tells
  have none_of : rNat u = none → rWord t = none := fun h => by
    rw [e]
    rcases hu with rfl | ⟨h1, rfl⟩
    · rw [rInt_neg, h]
      rfl
    · unfold rInt
      rw [if_neg h1, h]
      rfl
  refine ⟨_, rfl, rfl, _, rfl, ite2 (fun e1 => ?_) (fun e1 => ?_)⟩
  · refine ite2 (fun _ => ⟨Nat.zero_le _, fun p1 np1 => b (none_of ?_) _ p1 (same_new s1 np1) upd_same⟩) (fun e2 => absurd rfl e2)
    rw [S_empty (of_decide_eq_true e1)]
    rfl
  have une : u ≠ [] := fun z => e1 (by rw [z]; rfl)
  obtain ⟨c, u', rfl⟩ : ∃ c u', u = c :: u' := by
    cases u with
    | nil => exact absurd rfl une
    | cons c u' => exact ⟨c, u', rfl⟩
  by_cases hz : c = 48 ∧ t ≠ [48]
  · obtain ⟨hc, hn⟩ := hz
    subst hc
    have bad : rWord t = none := by
      rcases hu with rfl | ⟨h1, rfl⟩
      · rw [e]
        rw [rInt_neg]
        cases u' with
        | nil => rfl
        | cons x u' =>
          have : rNat (48 :: x :: u') = none := by
            unfold rNat
            rw [if_pos (.inr (.inl ⟨by simp, rfl⟩))]
          rw [this]
          rfl
      · have hl : 1 < (48 :: u').length := by
          cases u' with
          | nil => exact absurd rfl hn
          | cons x u' => simp
        refine none_of ?_
        unfold rNat
        rw [if_pos (.inr (.inl ⟨hl, rfl⟩))]
    refine via_yes (H := H1) (T := fun q => tAnd _ _ _ _ q) (fun q r => ?_) ?_
    · refine ⟨_, rfl, _, 0, 48, rfl, rfl, us, at_head, rfl, _, rfl, ite2 (fun _ => ?_) (fun e2 => absurd rfl e2)⟩
      refine ⟨_, rfl, rfl, _, rfl, ?_⟩
      rw [show decide (V.str (S t) = V.str (Str.ofString "0")) = false from decide_eq_false (fun z => hn (word_is (k := 48) z))]
      exact r
    · exact ite2 (fun _ => ⟨Nat.zero_le _, fun p1 np1 => b bad _ p1 (same_new s1 np1) upd_same⟩) (fun e2 => absurd rfl e2)
  refine via_no (H := H1) (T := fun q => tAnd _ _ _ _ q) (fun q r => ?_) ?_
  · refine ⟨_, rfl, _, 0, c, rfl, rfl, us, at_head, rfl, _, rfl, ite2 (fun e2 => ?_) (fun _ => r)⟩
    have c48 := sign_is (k := 48) rfl e2
    refine ⟨_, rfl, rfl, _, rfl, ?_⟩
    have : t = [48] := by
      by_cases z : t = [48]
      · exact z
      · exact absurd ⟨c48, z⟩ hz
    rw [show decide (V.str (S t) = V.str (Str.ofString "0")) = true by rw [this]; rfl]
    exact r
  refine ite2 (fun e2 => nomatch e2) (fun _ => ?_)
  -- for sign in number
  refine ⟨_, rfl, _, rfl, for_txt (fun i σ H2 => (∃ v, σ = [some (.str (S t)), some (.str (S (c :: u'))), v]) ∧ H2 = H1 ∧ ∀ x ∈ (c :: u').take i, isDig x = true) ⟨⟨_, rfl⟩, rfl, by simp⟩ ?_ ?_⟩
  · rintro i x σ H2 hx ⟨⟨v, rfl⟩, e3, hd⟩
    obtain rfl := e3.symm
    refine ⟨_, rfl, x, _, rfl, rfl, _, rfl, ite2 (fun e2 => ?_) (fun e2 => ?_)⟩
    · rw [digits_in] at e2
      have hm : x ∈ c :: u' := List.mem_of_getElem? (show (c :: u')[i]? = some x by simpa using hx)
      have hz : ¬ (c :: u').all isDig = true := fun z => by
        have e3 := List.all_eq_true.mp z x hm
        rw [e3] at e2
        cases e2
      refine ⟨Nat.zero_le _, fun p1 np1 => b (none_of ?_) _ p1 (same_new s1 np1) upd_same⟩
      unfold rNat
      rw [if_pos (.inr (.inr hz))]
    · rw [digits_in] at e2
      refine ⟨⟨_, rfl⟩, rfl, fun y hy => ?_⟩
      rw [List.take_succ, show (c :: u')[i]? = some x by simpa using hx] at hy
      rcases List.mem_append.mp hy with hy | hy
      · exact hd y hy
      · have : y = x := by simpa using hy
        subst this
        cases q : isDig y with
        | true => rfl
        | false => rw [q] at e2; exact absurd rfl e2
  rintro σ H2 ⟨⟨v, rfl⟩, e3, hd⟩
  obtain rfl := e3.symm
  have hall : AllDigits (c :: u') := all_digits.mp (List.all_eq_true.mpr fun x hx => hd x (by show x ∈ (c :: u').take (c :: u').length; rw [List.take_length]; exact hx))
  have hn : rNat (c :: u') = some (digitsVal (c :: u')) := by
    unfold rNat
    rw [if_neg]
    rintro (h | ⟨h1, h2⟩ | h)
    · cases h
    · have hc : c = 48 := by simpa using h2
      refine hz ⟨hc, fun z => ?_⟩
      rcases hu with rfl | ⟨_, h3⟩
      · cases z
      · rw [← h3] at z
        rw [z] at h1
        exact absurd h1 (by decide)
    · exact h (all_digits.mpr hall)
  refine ⟨_, rfl, ?_⟩
  rcases hu with rfl | ⟨h1, rfl⟩
  · have c48 : c ≠ 48 := fun z => hz ⟨z, by simp⟩
    have pos : digitsVal (c :: u') ≠ 0 := digitsVal_pos hall (List.cons_ne_nil _ _) (by simpa using c48)
    have hw : rWord (45 :: c :: u') = some (.int (-((digitsVal (c :: u') : Nat) : Int))) := by
      rw [e]
      rw [rInt_neg, hn]
      show (if digitsVal (c :: u') = 0 then none else some (-((digitsVal (c :: u') : Nat) : Int))).map PyData.int = _
      rw [if_neg pos]
      rfl
    refine ⟨_, _, rfl, intText_neg (cs := c :: u') rfl hall (List.cons_ne_nil _ _) (by show (45 :: c :: u').length ≤ 4300; omega), by show (45 :: c :: u').length ≤ 640; omega, ?_⟩
    exact ⟨by show 1 ≤ sizeLine; omega, fun p1 np1 => q _ _ _ p1 hw (same_new s1 np1) rfl upd_same⟩
  · have hw : rWord (c :: u') = some (.int ((digitsVal (c :: u') : Nat) : Int)) := by
      rw [e]
      unfold rInt
      rw [if_neg h1, hn]
      rfl
    refine ⟨_, _, rfl, SX.int_S (by have := all_digits.mpr hall; exact this) (List.cons_ne_nil _ _) (by omega), by show (c :: u').length ≤ 640; omega, ?_⟩
    exact ⟨by show 1 ≤ sizeLine; omega, fun p1 np1 => q _ _ _ p1 hw (same_new s1 np1) rfl upd_same⟩
end
end FL

set_option Elab.async false
set_option linter.all false
set_option maxRecDepth 100000
set_option maxHeartbeats 2000000
namespace FL
open PySem PySem.Spec PyProof.Rows L2 PySem.NumText
theorem lt_one {a b : Nat} : decide ([a] < [b]) = decide (a < b) := by
  rw [Bool.eq_iff_iff, decide_eq_true_eq, decide_eq_true_eq, List.cons_lt_cons_iff]
  constructor
  · rintro (h | ⟨_, h⟩)
    · exact h
    · exact absurd h (List.not_lt_nil _)
  · exact .inl
abbrev leR : R2 := fun x y H Q => ∃ i j, x = V.str i ∧ y = V.str j ∧ Q (.bl (!decide (j.cps.toList < i.cps.toList))) H
theorem chain_ok {a b : Str} {x y c : Nat} {t : List Nat} {j : Int} {σ : L2.St} {H : Hp} {q : Bool → Hp → Prop} (ha : a = S [x]) (hb : b = S [y]) (h0 : σ[0]? = some (some (.str (S t)))) (h6 : σ[6]? = some (some (.int j))) (hlen : t.length ≤ sizeLine)
    (hat : atI (S t).cps.toList j = some c) (r : q (decide (x ≤ c ∧ c ≤ y)) H) : tTest (tChain leR leR (tC (V.str a)) (tOp rIxS (tVar 0) (tVar 6)) (tC (V.str b))) σ H q := by
  subst ha hb
  refine ⟨_, h0, _, h6, _, _, c, rfl, rfl, hlen, hat, _, _, rfl, rfl, _, rfl, ?_⟩
  have e1 : (!decide ((S [c]).cps.toList < (S [x]).cps.toList)) = decide (x ≤ c) := by
    show (!decide ([c] < [x])) = _
    rw [lt_one, Bool.eq_iff_iff, Bool.not_eq_true', decide_eq_false_iff_not, decide_eq_true_eq]
    omega
  have e2 : (!decide ((S [y]).cps.toList < (S [c]).cps.toList)) = decide (c ≤ y) := by
    show (!decide ([y] < [c])) = _
    rw [lt_one, Bool.eq_iff_iff, Bool.not_eq_true', decide_eq_false_iff_not, decide_eq_true_eq]
    omega
  refine ite2 (fun e => ?_) (fun e => ?_)
  · rw [show (!decide ((⟨#[c]⟩ : Str).cps.toList < (S [x]).cps.toList)) = decide (x ≤ c) from e1] at e
    have h1 := of_decide_eq_true e
    refine ⟨_, _, rfl, rfl, _, rfl, ?_⟩
    rw [show (!decide ((S [y]).cps.toList < (⟨#[c]⟩ : Str).cps.toList)) = decide (c ≤ y) from e2]
    rw [show decide (x ≤ c ∧ c ≤ y) = decide (c ≤ y) by rw [Bool.eq_iff_iff, decide_eq_true_eq, decide_eq_true_eq]; omega] at r
    exact r
  · rw [show (!decide ((⟨#[c]⟩ : Str).cps.toList < (S [x]).cps.toList)) = decide (x ≤ c) from e1] at e
    have h1 : ¬ x ≤ c := of_decide_eq_false (Bool.eq_false_iff.mpr e)
    rw [show decide (x ≤ c ∧ c ≤ y) = false from decide_eq_false fun z => h1 z.1] at r
    exact ⟨_, rfl, r⟩
theorem let_ok {c : Nat} {t : List Nat} {j : Int} {σ : L2.St} {H : Hp} {q : Bool → Hp → Prop} (h0 : σ[0]? = some (some (.str (S t)))) (h6 : σ[6]? = some (some (.int j))) (hlen : t.length ≤ sizeLine)
    (hat : atI (S t).cps.toList j = some c) (r : q (isLet c) H) : tOr (tTest (tOp rEq (tOp rIxS (tVar 0) (tVar 6)) (tC (V.str (Str.ofString " ")))))
      (tOr (tTest (tChain leR leR (tC (V.str (Str.ofString "a"))) (tOp rIxS (tVar 0) (tVar 6)) (tC (V.str (Str.ofString "z"))))) (tTest (tChain leR leR (tC (V.str (Str.ofString "A"))) (tOp rIxS (tVar 0) (tVar 6)) (tC (V.str (Str.ofString "Z")))))) σ H q := by
  refine ⟨_, h0, _, h6, _, _, c, rfl, rfl, hlen, hat, rfl, _, rfl, ite2 (fun e => ?_) (fun e => ?_)⟩
  · have : c = 32 := one_is (k := 32) (of_decide_eq_true e)
    subst this
    exact r
  · have n32 : c ≠ 32 := fun z => e (by rw [z]; rfl)
    refine chain_ok (x := 97) (y := 122) rfl rfl h0 h6 hlen hat (ite2 (fun e1 => ?_) (fun e1 => ?_))
    · have h1 := of_decide_eq_true e1
      rw [show isLet c = true by unfold isLet; rw [decide_eq_true h1]; rfl] at r
      exact r
    · have h1 : ¬ (97 ≤ c ∧ c ≤ 122) := of_decide_eq_false (Bool.eq_false_iff.mpr e1)
      refine chain_ok (x := 65) (y := 90) rfl rfl h0 h6 hlen hat ?_
      rw [show isLet c = decide (65 ≤ c ∧ c ≤ 90) by unfold isLet; rw [decide_eq_false h1, Bool.false_or, beq_eq_false_iff_ne.mpr n32, Bool.or_false]] at r
      exact r
theorem seps_in2 {c : Nat} : (!decide (c ∈ (Str.ofString "() \"").cps.toList)) = !isSep c := by
  congr 1
  rw [show (Str.ofString "() \"").cps.toList = [40, 41, 32, 34] by decide +kernel]
  unfold isSep
  rw [Bool.eq_iff_iff, decide_eq_true_eq]
  simp only [List.mem_cons, List.not_mem_nil, or_false, Bool.or_eq_true, beq_iff_eq]
  omega
/-- how far the letters go -/
theorem run_stop {t : List Nat} {p : Nat → Bool} {i k : Nat} (hh : ∀ c ∈ (t.drop i).take k, p c = true) (hn : ∀ c r', t.drop (i + k) = c :: r' → p c = false) :
    (t.drop i).takeWhile p = (t.drop i).take k ∧ (t.drop i).dropWhile p = t.drop (i + k) := by
  have e1 : t.drop i = (t.drop i).take k ++ t.drop (i + k) := by
    rw [show t.drop (i + k) = (t.drop i).drop k by rw [List.drop_drop], List.take_append_drop]
  generalize (t.drop i).take k = a at e1 hh
  generalize t.drop (i + k) = r at e1 hn
  rw [e1]
  clear e1
  induction a with
  | nil =>
    cases r with
    | nil => exact ⟨rfl, rfl⟩
    | cons c r => simp [List.takeWhile_cons, List.dropWhile_cons, hn c r rfl]
  | cons x a ih =>
    obtain ⟨h1, h2⟩ := ih fun c hc => hh c (List.mem_cons_of_mem _ hc)
    have hx := hh x (List.mem_cons_self ..)
    constructor
    · rw [List.cons_append, List.takeWhile_cons, if_pos hx, h1]
    · rw [List.cons_append, List.dropWhile_cons, if_pos hx, h2]
theorem run_more {t : List Nat} {p : Nat → Bool} {i k : Nat} {c : Nat} {r' : List Nat} (e1 : t.drop (i + k) = c :: r') (hc : p c = true) (hh : ∀ c ∈ (t.drop i).take k, p c = true) : ∀ c ∈ (t.drop i).take (k + 1), p c = true := by
  intro x hx
  rw [List.take_succ] at hx
  rcases List.mem_append.mp hx with hx | hx
  · exact hh x hx
  · rw [List.getElem?_drop] at hx
    have : t[i + k]? = some c := by
      rw [← List.head?_drop, e1]
      rfl
    rw [this] at hx
    have : x = c := by simpa using hx
    rw [this]; exact hc
theorem drop_lt {t : List Nat} {n c : Nat} {r' : List Nat} (e1 : t.drop n = c :: r') : n < t.length ∧ ∀ h : n < t.length, t[n] = c := by
  have lt : n < t.length := by
    have := congrArg List.length e1
    rw [List.length_drop, List.length_cons] at this
    omega
  refine ⟨lt, fun h => ?_⟩
  have := List.drop_eq_getElem_cons lt
  rw [e1] at this
  injection this with h1 _
  exact h1.symm
section
variable {P : Program} {w : World} {K : PySem.W.Frag} {mg : Str → Option Value} {base : Heap} {C fI : Addr}
def spTO (K : PySem.W.Frag) : Sp := fun vs H Q _ => ∃ t : List Nat, vs = [.str (S t)] ∧ t.length ≤ 100000 ∧ mx t ≤ 500 ∧ (∀ d v H' p, parse t = some d → Same H H' → Rp K H' d v → H' p = some (.lst [v]) → Q (.ref p) H') ∧ (parse t = none → ∀ H' p, Same H H' → H' p = some (.lst []) → Q (.ref p) H')
theorem sparse_no {t : List Nat} (h : SD [[]] true t = none) : parse t = none := by
  rw [← sparse_parse]
  unfold sparse
  rw [h]
abbrev s_law_tuple_of : Stmt := topS 30
abbrev N_law_tuple_of : List Str := ["text", "levels", "at", "ready", "sign", "done", "end", "word"]
theorem sc_law_tuple_of : FnScope N_law_tuple_of ["text"] (defScope s_law_tuple_of) := ⟨rfl, rfl, rfl, by decide +kernel, rfl, by decide +kernel, by decide +kernel⟩
theorem ok_law_tuple_of {f f1 : Addr} {fd fd1 : FuncData} (D_law_tuple_of : DefAt K mg "_law_tuple_of" s_law_tuple_of ["text"] f fd) (D_law_word_of : DefAt K mg "_law_word_of" s_law_word_of ["word"] f1 fd1) (z_len : mg "len" = none) (z_tuple : mg "tuple" = none) (z_isinstance : mg "isinstance" = none)
    (G_law_word_of : FnOk P w K mg base CX0 1 f1 fd1 ["word"] (spLW K)) : FnOk P w K mg base CX0 2 f fd ["text"] (spTO K) := by
  refine D_law_tuple_of.F.ok sc_law_tuple_of (fun vs H Q E h => ?_) (fun cdv A outer s H vs Q E hr h => ?_)
  · obtain ⟨t, rfl, _⟩ := h
    rfl
  obtain ⟨t, rfl, ht, hm, q, b⟩ := h
  refine ⟨_, (pss_cons (ps_set (i := 1) sc_law_tuple_of.nd rfl (Or.inl rfl) (pe_lst (pa_cons (pe_lst pa_nil) pa_nil)))
      (pss_cons (ps_set (i := 2) sc_law_tuple_of.nd rfl (Or.inl rfl) pe_int)
      (pss_cons (ps_set (i := 3) sc_law_tuple_of.nd rfl (Or.inl rfl) pe_bl)
      (pss_cons (ps_while PassesOwn.never (pt_cmpR op_lt (pv 2) (pe_callB call_len (by rfl) z_len (by decide +kernel) (pa_cons (pv 0) pa_nil)) (nomark _)) (pss_cons (ps_set (i := 4) sc_law_tuple_of.nd rfl (Or.inl rfl) (pe_ix ix_str (pv 0) (pv 2) (fun _ _ => rfl)))
        (pss_one (ps_if (pt_cmpR op_eq (pv 4) pe_str (nomark _)) (pss_cons (ps_if (PW.pt (pw_or (pt_cmpR op_lt (pe_callB call_len_seq (by rfl) z_len (by decide +kernel) (pa_cons (pv 1) pa_nil)) pe_int (nomark _)) (pw_or1 (PW.pt (pw_and (pt_val (pv 3)) (pw_and1 (pt_truth (pe_ix ix_list (pv 1) (pe_un un_neg pe_int) (fun _ _ => rfl)) (by intro _; rfl)))))))) (pss_one (ps_ret (pe_lst pa_nil)))
            pss_nil)
          (pss_cons (ps_set (i := 5) sc_law_tuple_of.nd rfl (Or.inl rfl) (pe_callTy call_tuple_of (by rfl) z_tuple (by decide +kernel) (pa_cons (pe_bm0 PySem.F.plainAttrs_list PySem.F.slot_list_pop PySem.F.type_list_pop mt_pop (pv 1)) pa_nil)))
          (pss_cons (ps_expr (pe_bm PySem.F.plainAttrs_list PySem.F.slot_list_append PySem.F.type_list_append mt_append (pe_ix ix_list (pv 1) (pe_un un_neg pe_int) (fun _ _ => rfl)) (pa_cons (pv 5) pa_nil)))
          (pss_cons (ps_set (i := 3) sc_law_tuple_of.nd rfl (Or.inl rfl) pe_bl)
          (pss_one (ps_set (i := 2) sc_law_tuple_of.nd rfl (Or.inl rfl) (pe_op op_add (pv 2) pe_int)))))))
          (pss_one (ps_if (pt_cmpR op_eq (pv 4) pe_str (nomark _)) (pss_cons (ps_if (PW.pt (pw_or (pt_val (pv 3)) (pw_or1 (pt_cmpR op_lt (pe_callB call_len_seq (by rfl) z_len (by decide +kernel) (pa_cons (pv 1) pa_nil)) pe_int (nomark _))))) (pss_one (ps_ret (pe_lst pa_nil)))
              pss_nil)
            (pss_cons (ps_set (i := 3) sc_law_tuple_of.nd rfl (Or.inl rfl) pe_bl)
            (pss_one (ps_set (i := 2) sc_law_tuple_of.nd rfl (Or.inl rfl) (pe_op op_add (pv 2) pe_int)))))
            (pss_one (ps_if (pt_not (pt_val (pv 3))) (pss_one (ps_ret (pe_lst pa_nil)))
              (pss_one (ps_if (pt_cmpR op_eq (pv 4) pe_str (nomark _)) (pss_cons (ps_expr (pe_bm PySem.F.plainAttrs_list PySem.F.slot_list_append PySem.F.type_list_append mt_append (pv 1) (pa_cons (pe_lst pa_nil) pa_nil)))
                (pss_one (ps_set (i := 2) sc_law_tuple_of.nd rfl (Or.inl rfl) (pe_op op_add (pv 2) pe_int))))
                (pss_one (ps_if (pt_cmpR op_eq (pv 4) pe_str (nomark _)) (pss_cons (ps_set (i := 6) sc_law_tuple_of.nd rfl (Or.inl rfl) (pe_op op_add (pv 2) pe_int))
                  (pss_cons (ps_while PassesOwn.never (PW.pt (pw_and (pt_cmpR op_lt (pv 6) (pe_callB call_len (by rfl) z_len (by decide +kernel) (pa_cons (pv 0) pa_nil)) (nomark _)) (pw_and1 (PW.pt (pw_or (pt_cmpR op_eq (pe_ix ix_str (pv 0) (pv 6) (fun _ _ => rfl)) pe_str (nomark _)) (pw_or (pt_chain op_le_str op_le_str pe_str (pe_ix ix_str (pv 0) (pv 6) (fun _ _ => rfl)) pe_str) (pw_or1 (pt_chain op_le_str op_le_str pe_str (pe_ix ix_str (pv 0) (pv 6) (fun _ _ => rfl)) pe_str)))))))) (pss_one (ps_set (i := 6) sc_law_tuple_of.nd rfl (Or.inl rfl) (pe_op op_add (pv 6) pe_int))))
                  (pss_cons (ps_if (pt_cmpR op_ne (pe_slice sl_str (pv 0) (po_some (pv 6)) (po_some (pe_op op_add (pv 6) pe_int))) pe_str (nomark _)) (pss_one (ps_ret (pe_lst pa_nil)))
                    pss_nil)
                  (pss_cons (ps_expr (pe_bm PySem.F.plainAttrs_list PySem.F.slot_list_append PySem.F.type_list_append mt_append (pe_ix ix_list (pv 1) (pe_un un_neg pe_int) (fun _ _ => rfl)) (pa_cons (pe_slice sl_str (pv 0) (po_some (pe_op op_add (pv 2) pe_int)) (po_some (pv 6))) pa_nil)))
                  (pss_cons (ps_set (i := 3) sc_law_tuple_of.nd rfl (Or.inl rfl) pe_bl)
                  (pss_one (ps_set (i := 2) sc_law_tuple_of.nd rfl (Or.inl rfl) (pe_op op_add (pv 6) pe_int))))))))
                  (pss_cons (ps_set (i := 6) sc_law_tuple_of.nd rfl (Or.inl rfl) (pv 2))
                  (pss_cons (ps_while PassesOwn.never (PW.pt (pw_and (pt_cmpR op_lt (pv 6) (pe_callB call_len (by rfl) z_len (by decide +kernel) (pa_cons (pv 0) pa_nil)) (nomark _)) (pw_and1 (pt_cmpR op_notIn_sign (pe_ix ix_str (pv 0) (pv 6) (fun _ _ => rfl)) pe_str rfl)))) (pss_one (ps_set (i := 6) sc_law_tuple_of.nd rfl (Or.inl rfl) (pe_op op_add (pv 6) pe_int))))
                  (pss_cons (ps_set (i := 7) sc_law_tuple_of.nd rfl (Or.inl rfl) (pe_call G_law_word_of (hr.mono (by first | decide | omega)) (by rfl) D_law_word_of.m D_law_word_of.F.kp D_law_word_of.b .nil pass0 (pa_cons (pe_slice sl_str (pv 0) (po_some (pv 2)) (po_some (pv 6))) pa_nil)))
                  (pss_cons (ps_if (pt_not (pt_truth (pv 7) (by intro _; rfl))) (pss_one (ps_ret (pe_lst pa_nil)))
                    pss_nil)
                  (pss_cons (ps_expr (pe_bm PySem.F.plainAttrs_list PySem.F.slot_list_append PySem.F.type_list_append mt_append (pe_ix ix_list (pv 1) (pe_un un_neg pe_int) (fun _ _ => rfl)) (pa_cons (pe_ix ix_list (pv 7) pe_int (fun _ _ => rfl)) pa_nil)))
                  (pss_cons (ps_set (i := 3) sc_law_tuple_of.nd rfl (Or.inl rfl) pe_bl)
                  (pss_one (ps_set (i := 2) sc_law_tuple_of.nd rfl (Or.inl rfl) (pv 6)))))))))))))))))))))
      (pss_cons (ps_if (PW.pt (pw_or (pt_cmpR op_ne (pe_callB call_len_seq (by rfl) z_len (by decide +kernel) (pa_cons (pv 1) pa_nil)) pe_int (nomark _)) (pw_or (pt_cmpR op_ne (pe_callB call_len_seq (by rfl) z_len (by decide +kernel) (pa_cons (pe_ix ix_list (pv 1) pe_int (fun _ _ => rfl)) pa_nil)) pe_int (nomark _)) (pw_or1 (pt_not (pt_truth (pe_callB call_isi (by rfl) z_isinstance (by decide +kernel) (pa_cons (pe_ix ix_list (pe_ix ix_list (pv 1) pe_int (fun _ _ => rfl)) pe_int (fun _ _ => rfl)) (pa_cons (pe_bltn (v := .ty "tuple") (by rfl) z_tuple (by decide +kernel) rfl) pa_nil))) (by intro _; rfl))))))) (pss_one (ps_ret (pe_lst pa_nil)))
        pss_nil)
      (pss_one (ps_ret (pe_ix ix_list (pv 1) pe_int (fun _ _ => rfl))))))))), ?_⟩
  have sl := sizeLine_eq
  have hlen : t.length ≤ sizeLine := by omega
  -- levels = [[]]; at = 0; ready = True
  refine ⟨Nat.zero_le _, fun p np => ⟨by show 1 ≤ sizeLine; omega, fun lv nl => ?_⟩⟩
  have start : LI K H lv [[]] [p] (upd (upd H p (.lst [])) lv (.lst [.ref p])) := by
    have pl : p ≠ lv := ne_of_none upd_same nl
    have s1 : Same H (upd H p (.lst [])) := same_new (Same.refl H) np
    refine ⟨same_new s1 nl, upd_same, by simp, by simp [Ne.symm pl], ⟨p, [], [], rfl, by rw [upd_ne pl]; exact upd_same, rfl, rfl⟩, ?_, ?_⟩
    · cases z : H lv with
      | none => rfl
      | some o => rw [s1 _ _ z] at nl; cases nl
    · intro a ha
      rw [List.mem_singleton.mp ha]
      exact np
  dsimp only [gName, List.set]
  generalize upd (upd H p (.lst [])) lv (.lst [.ref p]) = H0 at start ⊢
  -- while at < len(text)
  refine ⟨fun m σ' H' => ∃ (i : Nat) (L : List (List PyData)) (as : List Addr) (rdy : Bool) (o4 o5 o6 o7 : Option V), σ' = [some (.str (S t)), some (.ref lv), some (.int (i : Int)), some (.bl rdy), o4, o5, o6, o7] ∧ m = t.length - i ∧ i ≤ t.length ∧ LI K H lv L as H' ∧ SD [[]] true t = SD L rdy (t.drop i) ∧ L ≠ [] ∧ L.length ≤ i + 1 ∧ (∀ x ∈ L, x.length ≤ i),
    ⟨_, 0, [[]], [p], true, _, _, _, _, rfl, rfl, Nat.zero_le _, start, rfl, List.cons_ne_nil _ _, Nat.le_refl _, ?_⟩, fun m σ' H' hw => ?_⟩
  · intro x hx
    rw [List.mem_singleton.mp hx]
    exact Nat.le_refl _
  obtain ⟨i, L, as, rdy, o4, o5, o6, o7, rfl, rfl, hi, li, hR, hne, hL, hX⟩ := hw
  refine ⟨_, rfl, _, rfl, _, _, rfl, ⟨hlen, rfl⟩, _, _, rfl, rfl, _, rfl, ite2 (fun e => ?_) (fun e => ?_)⟩
  · have lt : i < t.length := Int.ofNat_lt.mp (of_decide_eq_true e)
    have dr := List.drop_eq_getElem_cons lt
    have mxr : mx (t.drop i) ≤ 500 := by
      have := mx_right (t.take i) (t.drop i)
      rw [List.take_append_drop] at this
      omega
    generalize hc : t[i] = c at dr
    have ac : atI (S t).cps.toList (i : Int) = some c := by rw [← hc]; exact at_code lt
    rw [dr, SD_cons] at hR
    obtain ⟨top, ls, rfl⟩ : ∃ top ls, L = top :: ls := by
      cases L with
      | nil => exact absurd rfl hne
      | cons top ls => exact ⟨top, ls, rfl⟩
    have la := li.la
    obtain ⟨a, r, xs, rfl, ha, rpa, hr⟩ := la
    have xl := rpa.len
    have topl := hX top (List.mem_cons_self ..)
    have lenL : (refs (a :: r)).length = ls.length + 1 := by rw [refs_len, List.length_cons, hr.len]
    obtain ⟨m1, m2, m3⟩ := refs_last (a := a) (r := r)
    have none' : SD [[]] true t = none → ∀ H2 p2, Same H H2 → H2 p2 = some (.lst []) → Q (.ref p2) H2 := fun h => b (sparse_no h)
    refine ⟨_, fun _ _ h => h, ?_⟩
    -- sign = text[at]
    refine ⟨_, rfl, _, rfl, _, _, c, rfl, rfl, hlen, ac, ?_⟩
    -- if sign == ')'
    refine ⟨_, rfl, rfl, _, rfl, ite2 (fun e1 => ?_) (fun e1 => ?_)⟩
    · have c41 := sign_is (k := 41) rfl e1
      subst c41
      by_cases bad : ls = [] ∨ (rdy = true ∧ top ≠ [])
      · have hno : SD [[]] true t = none := by
          rw [hR]
          rcases bad with rfl | ⟨rfl, h2⟩
          · rfl
          · have : sturn (top :: ls) true 41 (t.drop (i + 1)) = none := by
              unfold sturn
              rw [if_pos rfl]
              cases ls with
              | nil => rfl
              | cons nx ls =>
                show (if true = true ∧ top ≠ [] then none else _) = none
                rw [if_pos ⟨rfl, h2⟩]
            rw [this]
        refine via_yes (H := H') (T := fun q => tOr _ _ _ _ q) (fun q r => ?_) (ite2 (fun _ => ⟨Nat.zero_le _, fun p1 np1 => none' hno _ p1 (same_new li.hs np1) upd_same⟩) (fun e2 => absurd rfl e2))
        refine ⟨_, rfl, _, _, rfl, .inl (SqL.of li.hl), _, _, rfl, rfl, _, rfl, ite2 (fun _ => r) (fun e2 => ?_)⟩
        rcases bad with rfl | ⟨rfl, h2⟩
        · refine absurd (decide_eq_true ?_) e2
          rw [lenL]
          decide
        · refine ⟨_, rfl, true, rfl, ite2 (fun _ => ?_) (fun e3 => absurd rfl e3)⟩
          refine ⟨_, rfl, _, rfl, _, _, _, _, rfl, rfl, SqL.of li.hl, m3, true, .inl ⟨_, SqL.of ha, ?_⟩, r⟩
          cases xs with
          | nil => exact absurd (List.length_eq_zero_iff.mp xl.symm) h2
          | cons x xs => rfl
      · obtain ⟨nx, ls, rfl⟩ : ∃ nx ls', ls = nx :: ls' := by
          cases ls with
          | nil => exact absurd (.inl rfl) bad
          | cons x ls => exact ⟨x, ls, rfl⟩
        have nb : ¬ (rdy = true ∧ top ≠ []) := fun z => bad (.inr z)
        have hR2 : SD [[]] true t = SD ((nx ++ [.tuple top]) :: ls) false (t.drop (i + 1)) := by
          rw [hR]
          have : sturn (top :: nx :: ls) rdy 41 (t.drop (i + 1)) = some ((nx ++ [.tuple top]) :: ls, false, t.drop (i + 1)) := by
            unfold sturn
            rw [if_pos rfl]
            show (if rdy = true ∧ top ≠ [] then none else _) = _
            rw [if_neg nb]
            rfl
          rw [this]
        refine via_no (H := H') (T := fun q => tOr _ _ _ _ q) (fun q r => ?_) (ite2 (fun e2 => nomatch e2) (fun _ => ?_))
        · refine ⟨_, rfl, _, _, rfl, .inl (SqL.of li.hl), _, _, rfl, rfl, _, rfl, ite2 (fun e2 => ?_) (fun _ => ?_)⟩
          · have e3 := of_decide_eq_true e2
            rw [lenL, List.length_cons] at e3
            omega
          · refine ⟨_, rfl, rdy, rfl, ite2 (fun e3 => ?_) (fun _ => r)⟩
            refine ⟨_, rfl, _, rfl, _, _, _, _, rfl, rfl, SqL.of li.hl, m3, false, .inl ⟨_, SqL.of ha, ?_⟩, r⟩
            have : top = [] := by
              cases top with
              | nil => rfl
              | cons x top => exact absurd ⟨e3, List.cons_ne_nil _ _⟩ nb
            rw [this] at xl
            rw [List.length_eq_zero_iff.mp xl]
            rfl
        -- done = tuple(levels.pop())
        refine ⟨_, rfl, .inl ⟨rfl, _, SqL.of li.hl⟩, _, _, _, rfl, rfl, li.hl, m1, ?_⟩
        rw [m2]
        obtain ⟨li2, ha2, rp2⟩ := li.pops ha
        generalize upd _ lv (.lst (refs r)) = H1 at li2 ha2 rp2 ⊢
        refine ⟨_, _, rfl, .inl ⟨SqL.of ha2, fun p np => ?_⟩⟩
        have s3 : Same H1 (upd H1 p (.tup xs)) := same_new (Same.refl H1) np
        have li3 := li2.keep s3
        have rp3 : Rp K (upd H1 p (.tup xs)) (.tuple top) (.ref p) := ⟨p, xs, rfl, SqT.of upd_same, rp2.tk (Tk.same s3)⟩
        show tSeq _ _ _ _ (upd H1 p (.tup xs))
        generalize upd H1 p (.tup xs) = H2 at li3 rp3 ⊢
        have la3 := li3.la
        obtain ⟨a3, r3, xs3, rfl, ha3, rpa3, hr3⟩ := la3
        have xl3 := rpa3.len
        have nxl := hX nx (List.mem_cons_of_mem _ (List.mem_cons_self ..))
        obtain ⟨k1, k2, k3⟩ := refs_last (a := a3) (r := r3)
        refine ⟨_, rfl, _, rfl, _, _, _, _, rfl, rfl, SqL.of li3.hl, k3, .inl ⟨rfl, _, SqL.of ha3⟩, _, rfl, _, _, _, rfl, rfl, ha3, by omega, ?_⟩
        refine ⟨_, rfl, _, _, rfl, rfl, _, ?_, i + 1, _, _, false, _, _, _, _, rfl, rfl, lt, li3.puts ha3 rp3, hR2, List.cons_ne_nil _ _, ?_, ?_⟩
        · show t.length - (i + 1) < t.length - i
          omega
        · simp only [List.length_cons] at hL ⊢
          omega
        · intro x hx
          rcases List.mem_cons.mp hx with rfl | hx
          · rw [List.length_append, List.length_singleton]
            omega
          · have := hX x (List.mem_cons_of_mem _ (List.mem_cons_of_mem _ hx))
            omega
    have n41 := sign_not (k := 41) rfl e1
    -- elif sign == ' '
    refine ⟨_, rfl, rfl, _, rfl, ite2 (fun e2 => ?_) (fun e2 => ?_)⟩
    · have c32 := sign_is (k := 32) rfl e2
      subst c32
      by_cases bad : rdy = true ∨ (top :: ls).length < 2
      · have hno : SD [[]] true t = none := by
          rw [hR]
          have : sturn (top :: ls) rdy 32 (t.drop (i + 1)) = none := by
            unfold sturn
            rw [if_neg (by decide), if_pos rfl, if_pos bad]
          rw [this]
        refine via_yes (H := H') (T := fun q => tOr _ _ _ _ q) (fun q r => ?_) (ite2 (fun _ => ⟨Nat.zero_le _, fun p1 np1 => none' hno _ p1 (same_new li.hs np1) upd_same⟩) (fun e3 => absurd rfl e3))
        refine ⟨_, rfl, rdy, rfl, ite2 (fun _ => r) (fun e3 => ?_)⟩
        refine ⟨_, rfl, _, _, rfl, .inl (SqL.of li.hl), _, _, rfl, rfl, _, rfl, ?_⟩
        rw [lenL]
        rcases bad with h | h
        · exact absurd h e3
        · rw [show decide (((ls.length + 1 : Nat) : Int) < 2) = true from decide_eq_true (by rw [List.length_cons] at h; omega)]
          exact r
      · have hR2 : SD [[]] true t = SD (top :: ls) true (t.drop (i + 1)) := by
          rw [hR]
          have : sturn (top :: ls) rdy 32 (t.drop (i + 1)) = some (top :: ls, true, t.drop (i + 1)) := by
            unfold sturn
            rw [if_neg (by decide), if_pos rfl, if_neg bad]
          rw [this]
        refine via_no (H := H') (T := fun q => tOr _ _ _ _ q) (fun q r => ?_) (ite2 (fun e2 => nomatch e2) (fun _ => ?_))
        · refine ⟨_, rfl, rdy, rfl, ite2 (fun e3 => absurd (.inl e3) bad) (fun e3 => ?_)⟩
          refine ⟨_, rfl, _, _, rfl, .inl (SqL.of li.hl), _, _, rfl, rfl, _, rfl, ?_⟩
          rw [lenL, show decide (((ls.length + 1 : Nat) : Int) < 2) = false from decide_eq_false (fun z => bad (.inr (by rw [List.length_cons]; omega)))]
          exact r
        refine ⟨_, rfl, _, _, rfl, rfl, _, ?_, i + 1, _, _, true, _, _, _, _, rfl, rfl, lt, li, hR2, List.cons_ne_nil _ _, by omega, ?_⟩
        · show t.length - (i + 1) < t.length - i
          omega
        · intro x hx
          have := hX x hx
          omega
    have n32 := sign_not (k := 32) rfl e2
    -- elif not ready
    refine ⟨_, rfl, rdy, rfl, ?_⟩
    cases rdy with
    | false =>
      have hno : SD [[]] true t = none := by
        rw [hR]
        have : sturn (top :: ls) false c (t.drop (i + 1)) = none := by
          unfold sturn
          rw [if_neg n41, if_neg n32, if_pos rfl]
        rw [this]
      exact ite2 (fun _ => ⟨Nat.zero_le _, fun p1 np1 => none' hno _ p1 (same_new li.hs np1) upd_same⟩) (fun e3 => absurd rfl e3)
    | true =>
    refine ite2 (fun e3 => nomatch e3) (fun _ => ?_)
    -- elif sign == '('
    refine ⟨_, rfl, rfl, _, rfl, ite2 (fun e3 => ?_) (fun e3 => ?_)⟩
    · have c40 := sign_is (k := 40) rfl e3
      subst c40
      have hR2 : SD [[]] true t = SD ([] :: top :: ls) true (t.drop (i + 1)) := hR
      refine ⟨_, rfl, .inl ⟨rfl, _, SqL.of li.hl⟩, Nat.zero_le _, fun p np => ?_⟩
      obtain ⟨h1, li2⟩ := li.opens np
      refine ⟨_, _, _, rfl, rfl, h1, ?_, ?_⟩
      · rw [refs_len, li.la.len]
        omega
      refine ⟨_, rfl, _, _, rfl, rfl, _, ?_, i + 1, _, _, true, _, _, _, _, rfl, rfl, lt, li2, hR2, List.cons_ne_nil _ _, ?_, ?_⟩
      · show t.length - (i + 1) < t.length - i
        omega
      · rw [List.length_cons]
        omega
      · intro x hx
        rcases List.mem_cons.mp hx with rfl | hx
        · exact Nat.zero_le _
        · have := hX x hx
          omega
    have n40 := sign_not (k := 40) rfl e3
    -- elif sign == '"'
    refine ⟨_, rfl, rfl, _, rfl, ite2 (fun e4 => ?_) (fun e4 => ?_)⟩
    · have c34 := sign_is (k := 34) rfl e4
      subst c34
      -- the run of letters
      refine ⟨_, rfl, _, _, rfl, rfl, ?_⟩
      refine ⟨fun m σ' H2 => ∃ k : Nat, σ' = [some (.str (S t)), some (.ref lv), some (.int (i : Int)), some (.bl true), some (.str ⟨#[34]⟩), o5, some (.int ((i + 1 + k : Nat) : Int)), o7] ∧ H2 = H' ∧ m = t.length - (i + 1 + k) ∧ i + 1 + k ≤ t.length ∧ (∀ c ∈ (t.drop (i + 1)).take k, isLet c = true), ⟨_, 0, rfl, rfl, rfl, lt, by simp⟩, fun m σ' H2 hw => ?_⟩
      obtain ⟨k, rfl, e0, rfl, hj, hh⟩ := hw
      obtain rfl := e0.symm
      by_cases go : ∃ c r', t.drop (i + 1 + k) = c :: r' ∧ isLet c = true
      · obtain ⟨c, r', e5, e6⟩ := go
        obtain ⟨lt2, e7⟩ := drop_lt e5
        refine ⟨_, rfl, _, rfl, _, _, rfl, ⟨hlen, rfl⟩, _, _, rfl, rfl, _, rfl, ite2 (fun _ => ?_) (fun e => absurd (decide_eq_true (Int.ofNat_lt.mpr lt2)) e)⟩
        refine let_ok (σ := [some (.str (S t)), some (.ref lv), some (.int (i : Int)), some (.bl true), some (.str ⟨#[34]⟩), o5, some (.int ((i + 1 + k : Nat) : Int)), o7]) rfl rfl hlen (at_code lt2) ?_
        rw [e7 lt2, e6]
        refine ite2 (fun _ => ⟨_, fun _ _ h => h, ?_⟩) (fun e => absurd rfl e)
        refine ⟨_, rfl, _, _, rfl, rfl, _, ?_, k + 1, rfl, rfl, rfl, lt2, run_more e5 e6 hh⟩
        show t.length - (i + 1 + (k + 1)) < t.length - (i + 1 + k)
        omega
      obtain ⟨h1, h2⟩ := run_stop hh fun c r' e5 => by
        cases z : isLet c with
        | false => rfl
        | true => exact absurd ⟨c, r', e5, z⟩ go
      refine via_no (H := H') (T := fun q => tAnd _ _ _ _ q) (fun q r => ?_) ?_
      · refine ⟨_, rfl, _, rfl, _, _, rfl, ⟨hlen, rfl⟩, _, _, rfl, rfl, _, rfl, ite2 (fun e => ?_) (fun _ => r)⟩
        have lt2 : i + 1 + k < t.length := Int.ofNat_lt.mp (of_decide_eq_true e)
        refine let_ok (σ := [some (.str (S t)), some (.ref lv), some (.int (i : Int)), some (.bl true), some (.str ⟨#[34]⟩), o5, some (.int ((i + 1 + k : Nat) : Int)), o7]) rfl rfl hlen (at_code lt2) ?_
        cases z : isLet t[i + 1 + k] with
        | false => exact r
        | true => exact absurd ⟨_, _, List.drop_eq_getElem_cons lt2, z⟩ go
      refine ite2 (fun e => nomatch e) (fun _ => ?_)
      have kl : ((t.drop (i + 1)).take k).length = k := by
        rw [List.length_take, List.length_drop]
        omega
      -- if text[end:end + 1] != '"'
      refine ⟨_, rfl, _, rfl, _, rfl, _, rfl, _, _, rfl, rfl, _, rfl, _, rfl, hlen, ?_⟩
      rw [show (((i + 1 + k : Nat) : Int) + 1) = ((i + 1 + k + 1 : Nat) : Int) by omega, cut_in, show i + 1 + k + 1 - (i + 1 + k) = 1 by omega]
      have tn : sturn (top :: ls) true 34 (t.drop (i + 1)) = (match (t.drop (i + 1)).dropWhile isLet with | 34 :: r' => some (push (top :: ls) (.str (S ((t.drop (i + 1)).takeWhile isLet))), false, r') | _ => none) := rfl
      rw [tn, h2, h1] at hR
      refine ⟨rfl, _, rfl, ite2 (fun e => ?_) (fun e => ?_)⟩
      · have hno : SD [[]] true t = none := by
          rw [hR]
          split
          · rfl
          · rename_i e5
            split at e5
            · rename_i er
              rw [er, show S (List.take 1 (34 :: _)) = Str.ofString "\"" from rfl, decide_eq_true rfl] at e
              cases e
            · cases e5
        exact ⟨Nat.zero_le _, fun p1 np1 => none' hno _ p1 (same_new li.hs np1) upd_same⟩
      · obtain ⟨r', er⟩ : ∃ r', t.drop (i + 1 + k) = 34 :: r' := by
          cases z : t.drop (i + 1 + k) with
          | nil => rw [z] at e; exact absurd (by decide +kernel) e
          | cons c r' =>
            rw [z] at e
            have : V.str (S (List.take 1 (c :: r'))) = V.str (Str.ofString "\"") := by
              by_cases y : V.str (S (List.take 1 (c :: r'))) = V.str (Str.ofString "\"")
              · exact y
              · exact absurd (by rw [decide_eq_false y]; rfl) e
            have e9 := word_is (k := 34) this
            have : c = 34 := by simpa using e9
            rw [this]; exact ⟨r', rfl⟩
        rw [er] at hR
        have hR2 : SD [[]] true t = SD ((top ++ [.str (S ((t.drop (i + 1)).take k))]) :: ls) false r' := hR
        have e6 : t.drop (i + 1 + k + 1) = r' := by
          have : t.drop (i + 1 + k + 1) = (t.drop (i + 1 + k)).drop 1 := by rw [List.drop_drop]
          rw [this, er]
          rfl
        obtain ⟨lt2, _⟩ := drop_lt er
        -- levels[-1].append(text[at + 1:end])
        refine ⟨_, rfl, _, rfl, _, _, _, _, rfl, rfl, SqL.of li.hl, m3, .inl ⟨rfl, _, SqL.of ha⟩, _, rfl, _, rfl, _, _, rfl, rfl, _, rfl, _, rfl, _, rfl, _, rfl, hlen, ?_⟩
        rw [show ((i : Int) + 1) = ((i + 1 : Nat) : Int) by omega, cut_in, show i + 1 + k - (i + 1) = k by omega]
        refine ⟨_, _, _, rfl, rfl, ha, by omega, ?_⟩
        refine ⟨_, rfl, _, _, rfl, rfl, _, ?_, i + 1 + k + 1, _, _, false, _, _, _, _, rfl, rfl, lt2, li.puts ha (d := .str (S ((t.drop (i + 1)).take k))) rfl, by rw [e6]; exact hR2, List.cons_ne_nil _ _, ?_, ?_⟩
        · show t.length - (i + 1 + k + 1) < t.length - i
          omega
        · simp only [List.length_cons] at hL ⊢
          omega
        · intro x hx
          rcases List.mem_cons.mp hx with rfl | hx
          · rw [List.length_append, List.length_singleton]
            omega
          · have := hX x (List.mem_cons_of_mem _ hx)
            omega
    have n34 := sign_not (k := 34) rfl e4
    -- a word
    have ns : isSep c = false := sep_ne n40 n41 n32 n34
    have tn : sturn (top :: ls) true c (t.drop (i + 1)) = (match rWord ((c :: t.drop (i + 1)).takeWhile fun x => !isSep x) with | some d => some (push (top :: ls) d, false, (c :: t.drop (i + 1)).dropWhile fun x => !isSep x) | none => none) := by
      unfold sturn
      rw [if_neg n41, if_neg n32, if_neg (by decide), if_neg n40, if_neg n34]
      all_goals rfl
    rw [tn, ← dr] at hR
    -- end = at
    refine ⟨_, rfl, ?_⟩
    refine ⟨fun m σ' H2 => ∃ k : Nat, σ' = [some (.str (S t)), some (.ref lv), some (.int (i : Int)), some (.bl true), some (.str ⟨#[c]⟩), o5, some (.int ((i + k : Nat) : Int)), o7] ∧ H2 = H' ∧ m = t.length - (i + k) ∧ i + k ≤ t.length ∧ (∀ c ∈ (t.drop i).take k, (!isSep c) = true), ⟨_, 0, rfl, rfl, rfl, hi, by simp⟩, fun m σ' H2 hw => ?_⟩
    obtain ⟨k, rfl, e0, rfl, hj, hh⟩ := hw
    obtain rfl := e0.symm
    by_cases go : ∃ c r', t.drop (i + k) = c :: r' ∧ (!isSep c) = true
    · obtain ⟨c', r', e5, e6⟩ := go
      obtain ⟨lt2, e7⟩ := drop_lt e5
      refine ⟨_, rfl, _, rfl, _, _, rfl, ⟨hlen, rfl⟩, _, _, rfl, rfl, _, rfl, ite2 (fun _ => ?_) (fun e => absurd (decide_eq_true (Int.ofNat_lt.mpr lt2)) e)⟩
      refine ⟨_, rfl, _, rfl, _, _, _, rfl, rfl, hlen, at_code lt2, _, _, rfl, rfl, _, rfl, ?_⟩
      rw [seps_in2, e7 lt2, e6]
      refine ite2 (fun _ => ⟨_, fun _ _ h => h, ?_⟩) (fun e => absurd rfl e)
      refine ⟨_, rfl, _, _, rfl, rfl, _, ?_, k + 1, rfl, rfl, rfl, lt2, run_more e5 e6 hh⟩
      show t.length - (i + (k + 1)) < t.length - (i + k)
      omega
    obtain ⟨h1, h2⟩ := run_stop (p := fun x => !isSep x) hh fun c r' e5 => by
      cases z : isSep c with
      | true => rfl
      | false => exact absurd ⟨c, r', e5, by rw [z]; rfl⟩ go
    refine via_no (H := H') (T := fun q => tAnd _ _ _ _ q) (fun q r => ?_) ?_
    · refine ⟨_, rfl, _, rfl, _, _, rfl, ⟨hlen, rfl⟩, _, _, rfl, rfl, _, rfl, ite2 (fun e => ?_) (fun _ => r)⟩
      have lt2 : i + k < t.length := Int.ofNat_lt.mp (of_decide_eq_true e)
      refine ⟨_, rfl, _, rfl, _, _, _, rfl, rfl, hlen, at_code lt2, _, _, rfl, rfl, _, rfl, ?_⟩
      rw [seps_in2]
      cases z : isSep t[i + k] with
      | true => exact r
      | false => exact absurd ⟨_, _, List.drop_eq_getElem_cons lt2, by rw [z]; rfl⟩ go
    refine ite2 (fun e => nomatch e) (fun _ => ?_)
    have hk := hd_take (t.drop i)
    rw [h1, List.length_take, List.length_drop] at hk
    have h1' : 1 ≤ hd (t.drop i) := by
      rw [dr, hd, if_neg (by rw [ns]; decide)]
      omega
    have h2' : hd (t.drop i) ≤ 500 := Nat.le_trans (hd_mx _) mxr
    -- word = _law_word_of(text[at:end])
    refine ⟨_, rfl, _, rfl, _, rfl, _, rfl, _, rfl, _, rfl, hlen, ?_⟩
    rw [cut_in, show i + k - i = k by omega]
    rw [h1, h2] at hR
    refine ⟨_, rfl, by rw [List.length_take, List.length_drop]; omega, fun d v H2 p hp s2 r2 hp2 => ?_, fun hno H2 p s2 hp2 => ?_⟩
    · rw [hp] at hR
      have hR2 : SD [[]] true t = SD ((top ++ [d]) :: ls) false (t.drop (i + k)) := hR
      have li2 := li.keep s2
      have ha2 := s2 _ _ ha
      refine ⟨_, rfl, _, .inl ⟨_, SqL.of hp2, rfl⟩, ite2 (fun e => nomatch e) (fun _ => ?_)⟩
      refine ⟨_, rfl, _, rfl, _, _, _, _, rfl, rfl, SqL.of li2.hl, m3, .inl ⟨rfl, _, SqL.of ha2⟩, _, rfl, _, _, 0, v, rfl, rfl, SqL.of hp2, rfl, _, _, _, rfl, rfl, ha2, by omega, ?_⟩
      refine ⟨_, rfl, _, ?_, i + k, _, _, false, _, _, _, _, rfl, rfl, hj, li2.puts ha2 r2, hR2, List.cons_ne_nil _ _, ?_, ?_⟩
      · show t.length - (i + k) < t.length - i
        omega
      · simp only [List.length_cons] at hL ⊢
        omega
      · intro x hx
        rcases List.mem_cons.mp hx with rfl | hx
        · rw [List.length_append, List.length_singleton]
          omega
        · have := hX x (List.mem_cons_of_mem _ hx)
          omega
    · rw [hno] at hR
      refine ⟨_, rfl, _, .inl ⟨_, SqL.of hp2, rfl⟩, ite2 (fun _ => ?_) (fun e => absurd rfl e)⟩
      exact ⟨Nat.zero_le _, fun p1 np1 => none' hR _ p1 (same_new (li.hs.trans s2) np1) upd_same⟩
  · -- the end
    have ge : t.length ≤ i := by
      by_cases z : i < t.length
      · exact absurd (decide_eq_true (Int.ofNat_lt.mpr z)) e
      · omega
    rw [List.drop_of_length_le ge, SD_nil] at hR
    obtain ⟨top, ls, rfl⟩ : ∃ top ls, L = top :: ls := by
      cases L with
      | nil => exact absurd rfl hne
      | cons top ls => exact ⟨top, ls, rfl⟩
    have la := li.la
    obtain ⟨a, r, xs, rfl, ha, rpa, hr⟩ := la
    have xl := rpa.len
    have rl := hr.len
    have len1 : (refs (a :: r)).length = ls.length + 1 := by rw [refs_len, List.length_cons, rl]
    have none' : parse t = none → ∀ H2 p2, Same H H2 → H2 p2 = some (.lst []) → Q (.ref p2) H2 := b
    have bad : (∀ d, top :: ls ≠ [[d]]) → parse t = none := fun n => by
      rw [← sparse_parse]
      unfold sparse
      rw [hR]
      split
      · rename_i d e
        injection e with e
        exact absurd e (n d)
      · rfl
    by_cases c1 : ls = []
    · subst c1
      have hr0 : r = [] := hr
      subst hr0
      have i0 : atI (refs [a]) 0 = some (.ref a) := rfl
      by_cases c2 : top.length = 1
      · obtain ⟨d, rfl⟩ := List.length_eq_one_iff.mp c2
        obtain ⟨v, vs, rfl, rd', hvs⟩ := rpa
        have hvs0 : vs = [] := hvs
        subst hvs0
        have j0 : atI [v] 0 = some v := rfl
        have hP : parse t = if isTup d = true then some d else none := by
          rw [← sparse_parse]
          unfold sparse
          rw [hR]
        obtain ⟨tn, ty, kt, _⟩ := rd'.ty
        refine ⟨_, rfl, _, _, rfl, .inl (SqL.of li.hl), rfl, _, rfl, ite2 (fun e1 => nomatch e1) (fun _ => ?_)⟩
        refine ⟨_, rfl, _, _, _, _, rfl, rfl, SqL.of li.hl, i0, _, _, rfl, .inl (SqL.of ha), rfl, _, rfl, ite2 (fun e1 => nomatch e1) (fun _ => ?_)⟩
        refine ⟨_, rfl, _, _, _, _, rfl, rfl, SqL.of li.hl, i0, _, _, _, _, rfl, rfl, SqL.of ha, j0, _, _, _, _, _, rfl, .ty "tuple", ty, kt, ?_⟩
        refine ⟨_, rfl, ite2 (fun e1 => ?_) (fun e1 => ?_)⟩
        · have no : ¬ isTup d = true := fun z => by
            rw [z] at e1
            cases e1
          exact ⟨Nat.zero_le _, fun p1 np1 => none' (by rw [hP, if_neg no]) _ p1 (same_new li.hs np1) upd_same⟩
        · have yes : isTup d = true := by
            cases z : isTup d with
            | false => rw [z] at e1; exact absurd rfl e1
            | true => rfl
          refine ⟨_, rfl, _, _, _, _, rfl, rfl, SqL.of li.hl, i0, ?_⟩
          exact q d v _ a (by rw [hP, if_pos yes]) li.hs rd' ha
      · have hP : parse t = none := bad fun d z => by
          injection z with z
          rw [z] at c2
          exact c2 rfl
        refine ⟨_, rfl, _, _, rfl, .inl (SqL.of li.hl), rfl, _, rfl, ite2 (fun e1 => nomatch e1) (fun _ => ?_)⟩
        refine ⟨_, rfl, _, _, _, _, rfl, rfl, SqL.of li.hl, i0, _, _, rfl, .inl (SqL.of ha), rfl, _, rfl, ite2 (fun _ => ?_) (fun e1 => absurd ?_ e1)⟩
        · refine ite2 (fun _ => ⟨Nat.zero_le _, fun p1 np1 => none' hP _ p1 (same_new li.hs np1) upd_same⟩) (fun e1 => absurd rfl e1)
        · have : decide (V.int (xs.length : Int) = V.int 1) = false := decide_eq_false fun z => c2 (by injection z with z; omega)
          rw [this]
          rfl
    · have hP : parse t = none := bad fun d z => by
        injection z with _ z
        exact c1 z
      refine ⟨_, rfl, _, _, rfl, .inl (SqL.of li.hl), rfl, _, rfl, ite2 (fun _ => ?_) (fun e1 => absurd ?_ e1)⟩
      · refine ite2 (fun _ => ⟨Nat.zero_le _, fun p1 np1 => none' hP _ p1 (same_new li.hs np1) upd_same⟩) (fun e1 => absurd rfl e1)
      · have : decide (V.int ((refs (a :: r)).length : Int) = V.int 1) = false := decide_eq_false fun z => c1 (by
          injection z with z
          rw [len1] at z
          cases ls with
          | nil => rfl
          | cons x ls =>
            rw [List.length_cons] at z
            omega)
        rw [this]
        rfl
end
end FL

set_option Elab.async false
set_option linter.all false
set_option maxRecDepth 100000
set_option maxHeartbeats 2000000
namespace FL
open PySem PySem.Spec PyProof.Rows L2 PySem.NumText
def isBl : PyData → Bool
  | .bool _ => true
  | _ => false
theorem Rp.tyb {K : PySem.W.Frag} {H : Hp} {d : PyData} {v : V} (h : Rp K H d v) : ∃ n : String, TyX K H v (.type n) ∧ PySem.W.kitOne K (.type n) (.type "bool") = some (isBl d) := by
  cases d with
  | none => rw [show v = .non from h]; exact ⟨_, .base .non, kit_ty (show kitB "NoneType" "bool" = some false by decide +kernel)⟩
  | bool b => rw [show v = .bl b from h]; exact ⟨_, .base (.bl b), kit_ty (show kitB "bool" "bool" = some true by decide +kernel)⟩
  | int i => rw [show v = .int i from h]; exact ⟨_, .base (.int i), kit_ty (show kitB "int" "bool" = some false by decide +kernel)⟩
  | str x => rw [show v = .str x from h]; exact ⟨_, .base (.str x), kit_ty (show kitB "str" "bool" = some false by decide +kernel)⟩
  | tuple ds =>
    obtain ⟨a, xs, rfl, hs, _⟩ := h
    exact ⟨_, ty_tup hs, kit_ty (show kitB "tuple" "bool" = some false by decide +kernel)⟩
  | list _ => exact h.elim
  | dict _ => exact h.elim
theorem flat_shape {k : Nat} {d : PyData} (h : Cl k d) (nt : isTup d = false) : SeqAt.shaped d = true ∧ PyData.eqv d d = true := by
  have lay : d.canLay0 = true ∧ d.depth = 0 := by
    cases d with
    | none => exact ⟨rfl, rfl⟩
    | bool _ => exact ⟨rfl, rfl⟩
    | int _ => exact ⟨rfl, rfl⟩
    | str x =>
      refine ⟨?_, rfl⟩
      show x.cps.all (· < 0x110000) = true
      rw [Array.all_eq_true_iff_forall_mem]
      intro c hc
      have := h c (by simpa using hc)
      refine decide_eq_true ?_
      unfold isLet at this
      rw [Bool.or_eq_true, Bool.or_eq_true, decide_eq_true_eq, decide_eq_true_eq, beq_iff_eq] at this
      omega
    | tuple ds => cases nt
    | list _ => exact h.elim
    | dict _ => exact h.elim
  refine ⟨?_, SeqAt.eqv_refl d lay.1⟩
  unfold SeqAt.shaped
  rw [lay.1, lay.2]
  rfl
section
variable {P : Program} {w : World} {K : PySem.W.Frag} {mg : Str → Option Value} {base : Heap} {C fI : Addr}
def spSame (K : PySem.W.Frag) (n : Nat) : Sp := fun vs H Q _ => ∃ d v w', vs = [v, w'] ∧ Rp K H d v ∧ Rp K H d w' ∧ Cl 500 d ∧ dep d < (n : Int) ∧ (wr d).length ≤ 1000000 ∧ ∀ H', Same H H' → Q (.bl true) H'
abbrev s_law_same : Stmt := topS 32
abbrev N_law_same : List Str := ["one", "two", "k"]
theorem sc_law_same : FnScope N_law_same ["one", "two"] (defScope s_law_same) := ⟨rfl, rfl, rfl, by decide +kernel, rfl, by decide +kernel, by decide +kernel⟩
theorem step_law_same {n : Nat} {f : Addr} {fd : FuncData} (D_law_same : DefAt K mg "_law_same" s_law_same ["one", "two"] f fd) (z_isinstance : mg "isinstance" = none) (z_tuple : mg "tuple" = none) (z_bool : mg "bool" = none) (z_len : mg "len" = none) (z_all : mg "all" = none) (z_range : mg "range" = none)
    (G_law_same : FnOk P w K mg base CX0 n f fd ["one", "two"] (spSame K n)) : FnOk P w K mg base CX0 (n + 1) f fd ["one", "two"] (spSame K (n + 1)) := by
  refine D_law_same.F.ok sc_law_same (fun vs H Q E h => ?_) (fun cdv A outer s H vs Q E hr h => ?_)
  · obtain ⟨d, v, w', rfl, _⟩ := h
    rfl
  obtain ⟨d, v, w', rfl, r1, r2, cl, hdep, hl, q⟩ := h
  have hu := hr.units
  refine ⟨_, (pss_cons (ps_if (PW.pt (pw_and (pt_truth (pe_callB call_isi (by rfl) z_isinstance (by decide +kernel) (pa_cons (pv 0) (pa_cons (pe_bltn (v := .ty "tuple") (by rfl) z_tuple (by decide +kernel) rfl) pa_nil))) (by intro _; rfl)) (pw_and1 (pt_truth (pe_callB call_isi (by rfl) z_isinstance (by decide +kernel) (pa_cons (pv 1) (pa_cons (pe_bltn (v := .ty "tuple") (by rfl) z_tuple (by decide +kernel) rfl) pa_nil))) (by intro _; rfl))))) (pss_one (ps_ret (pe_and (pe_cmpR op_eq (pe_callB call_len_seq (by rfl) z_len (by decide +kernel) (pa_cons (pv 0) pa_nil)) (pe_callB call_len_seq (by rfl) z_len (by decide +kernel) (pa_cons (pv 1) pa_nil)) (nomark _)) (pe_one (pe_callB (cr_all rfl) (by rfl) z_all (by decide +kernel) (pa_cons (pe_lc (own := [("k", 2)]) (g := gName 2) (by rfl) sc_law_same.nd (pi_range1 (by rfl) z_range (pa_cons (pe_callB call_len_seq (by rfl) z_len (by decide +kernel) (pa_cons (pv 0) pa_nil)) pa_nil)) (blkOk_by (own := [("k", 2)]) (N := N_law_same) (sc := (defScope s_law_same)) (by decide +kernel)) (fun _ _ _ _ _ => (pg_name (i := 2) sc_law_same.nd rfl (Or.inl rfl))) (fun _ _ _ _ _ => pts_nil) (fun _ _ _ _ _ => (pe_call G_law_same (hr.mono (by first | decide | omega)) (by rfl) D_law_same.m D_law_same.F.kp D_law_same.b .nil pass0 (pa_cons (pe_ix (show IxR _ (rIxT K) from ix_tup) (pv 0) (pv 2) (fun _ _ => rfl)) (pa_cons (pe_ix (show IxR _ (rIxT K) from ix_tup) (pv 1) (pv 2) (fun _ _ => rfl)) pa_nil))))) pa_nil))))))
        pss_nil)
      (pss_one (ps_ret (pe_and (pe_cmpR op_eq (pe_callB call_isi (by rfl) z_isinstance (by decide +kernel) (pa_cons (pv 0) (pa_cons (pe_bltn (v := .ty "bool") (by rfl) z_bool (by decide +kernel) rfl) pa_nil))) (pe_callB call_isi (by rfl) z_isinstance (by decide +kernel) (pa_cons (pv 1) (pa_cons (pe_bltn (v := .ty "bool") (by rfl) z_bool (by decide +kernel) rfl) pa_nil))) (nomark _)) (pe_one (pe_cmpR (op_eqD hu) (pv 0) (pv 1) (nomark _))))))), ?_⟩
  have sl := sizeLine_eq
  obtain ⟨tn, ty, kt, _⟩ := r1.ty
  obtain ⟨tn2, ty2, kt2, _⟩ := r2.ty
  by_cases it : isTup d = true
  · obtain ⟨ds, rfl⟩ : ∃ ds, d = .tuple ds := by
      cases d with
      | tuple ds => exact ⟨ds, rfl⟩
      | _ => cases it
    obtain ⟨a1, xs1, rfl, sq1, ra1⟩ := r1
    obtain ⟨a2, xs2, rfl, sq2, ra2⟩ := r2
    have l1 := ra1.len
    have l2 := ra2.len
    have h1 := jn_len' ds
    have h2 : (wr (.tuple ds)).length = (jn [32] (wrs ds)).length + 2 := by show (40 :: jn [32] (wrs ds) ++ [41]).length = _; simp
    have h3 := szs_le ds cl
    have h4 := len_szs ds
    refine ⟨_, rfl, _, _, _, _, _, rfl, .ty "tuple", ty, kt, ?_⟩
    refine ⟨_, rfl, ite2 (fun _ => ?_) (fun e => absurd rfl e)⟩
    refine ⟨_, rfl, _, _, _, _, _, rfl, .ty "tuple", ty2, kt2, ?_⟩
    refine ⟨_, rfl, ite2 (fun _ => ?_) (fun e => absurd rfl e)⟩
    refine ⟨_, rfl, _, _, rfl, .inr sq1, _, rfl, _, _, rfl, .inr sq2, rfl, ?_⟩
    refine ⟨_, rfl, ite2 (fun _ => ?_) (fun e => absurd (by rw [l1, l2]; exact decide_eq_true rfl) e)⟩
    refine ⟨_, rfl, _, _, rfl, .inr sq1, ?_⟩
    refine ⟨_, rfl, by omega, by omega, fun D nD => ?_⟩
    refine lc_range (lo := 0) (n := xs1.length) (fun i H' => Same H H' ∧ H' D = some (.lst ((List.replicate i true).map V.bl)) ∧ i ≤ xs1.length) ⟨same_new (Same.refl H) nD, upd_same, Nat.zero_le _⟩ ?_ ?_
    · rintro i H' hi ⟨s2, hD, _⟩
      have tk := Tk.same (K := K) s2
      have lt : i < ds.length := by omega
      have hg := List.getElem?_eq_getElem lt
      obtain ⟨v1, hv1, rv1⟩ := ra1.get hg
      obtain ⟨v2, hv2, rv2⟩ := ra2.get hg
      refine ⟨rfl, ?_⟩
      dsimp only [tYes]
      try rw [if_pos rfl]
      rw [Int.zero_add]
      refine ⟨_, rfl, _, rfl, _, _, _, _, rfl, rfl, tk _ _ sq1, atI_nat hv1, _, rfl, _, rfl, _, _, _, _, rfl, rfl, tk _ _ sq2, atI_nat hv2, ?_⟩
      refine ⟨ds[i], v1, v2, rfl, rv1.tk tk, rv2.tk tk, Cls.mem cl _ (List.getElem_mem lt), ?_, ?_, fun H2 s3 => ?_⟩
      · have h5 := dep_mem (List.getElem_mem lt)
        have h6 : dep (.tuple ds) = 1 + deps ds := by rw [dep]
        omega
      · have h5 := wr_mem (List.getElem_mem lt)
        omega
      · have hD2 := s3 _ _ hD
        refine ⟨_, hD2, ?_, same_mut (s2.trans s3) nD, ?_, hi⟩
        · rw [List.length_map, List.length_replicate]
          omega
        · rw [upd_same, List.replicate_succ', List.map_append]
          rfl
    · rintro H' ⟨s2, hD, _⟩
      refine ⟨D, _, rfl, SqL.of hD, ?_⟩
      rw [show (List.replicate xs1.length true).all id = true by simp]
      exact q _ s2
  · have nt : isTup d = false := by
      cases z : isTup d with
      | false => rfl
      | true => exact absurd z it
    obtain ⟨bn, tyb, kb⟩ := r1.tyb
    obtain ⟨bn2, tyb2, kb2⟩ := r2.tyb
    obtain ⟨sh, eq⟩ := flat_shape cl nt
    rw [nt] at kt
    refine ⟨_, rfl, _, _, _, _, _, rfl, .ty "tuple", ty, kt, ?_⟩
    refine ⟨_, rfl, ite2 (fun e => nomatch e) (fun _ => ite2 (fun e => nomatch e) (fun _ => ?_))⟩
    refine ⟨_, rfl, _, _, _, _, _, rfl, .ty "bool", tyb, kb, _, rfl, _, _, _, _, _, rfl, .ty "bool", tyb2, kb2, rfl, ?_⟩
    refine ⟨_, rfl, ite2 (fun _ => ?_) (fun e => absurd (decide_eq_true rfl) e)⟩
    refine ⟨_, rfl, _, rfl, d, d, r1.dp, r2.dp, sh, sh, ?_⟩
    rw [eq]
    exact q H (Same.refl H)
theorem ok_law_same {f : Addr} {fd : FuncData} (D_law_same : DefAt K mg "_law_same" s_law_same ["one", "two"] f fd) (z_isinstance : mg "isinstance" = none) (z_tuple : mg "tuple" = none) (z_bool : mg "bool" = none) (z_len : mg "len" = none) (z_all : mg "all" = none) (z_range : mg "range" = none) :
    ∀ n : Nat, FnOk P w K mg base CX0 n f fd ["one", "two"] (spSame K n)
  | 0 => none_left (b := true) fun vs H Q E h => by
      obtain ⟨d, _, _, _, _, _, _, h, _⟩ := h
      have := dep_nn d
      omega
  | n + 1 => step_law_same D_law_same z_isinstance z_tuple z_bool z_len z_all z_range (ok_law_same D_law_same z_isinstance z_tuple z_bool z_len z_all z_range n)

/-! ### the text changed -/
structure Cg (n i : Nat) (t : List Nat) : Prop where
  len : t.length ≤ n + i
  mx : mx t + 1 ≤ 51 * 2 ^ i
  pk : peak t ≤ 5 + 2 * (i : Int)
theorem Cg.of {n i : Nat} {t : List Nat} (x : Cg n i t) (a m m' b : List Nat) (ht : t = a ++ (m ++ b)) (h1 : m.length ≤ 1) (h2 : m'.length ≤ 1) : Cg n (i + 1) (a ++ (m' ++ b)) := by
  subst ht
  have hl := x.len
  have hm := x.mx
  have hp := x.pk
  refine ⟨?_, ?_, ?_⟩
  · simp only [List.length_append] at hl ⊢
    omega
  · have h3 := mx_left a (m ++ b)
    have h4 := mx_right (a ++ m) b
    rw [List.append_assoc] at h4
    have h5 := mx_app a (m' ++ b)
    have h6 := mx_app m' b
    have h7 := mx_le m'
    rw [Nat.pow_succ]
    omega
  · have := peak_mid (b := b) h1 h2 a
    omega
theorem Cg.in3 {n i : Nat} {t : List Nat} (x : Cg n i t) (j z : Nat) :
    Cg n (i + 1) (t.take j ++ [z] ++ t.drop j) ∧ Cg n (i + 1) (t.take j ++ t.drop (j + 1)) ∧ Cg n (i + 1) (t.take j ++ [z] ++ t.drop (j + 1)) := by
  have e1 : t = t.take j ++ ([] ++ t.drop j) := by simp
  have e2 : t = t.take j ++ ((t.drop j).take 1 ++ t.drop (j + 1)) := by
    rw [← List.drop_drop, List.take_append_drop, List.take_append_drop]
  have l1 : ((t.drop j).take 1).length ≤ 1 := by rw [List.length_take]; omega
  refine ⟨?_, ?_, ?_⟩
  · have := x.of (t.take j) [] [z] (t.drop j) e1 (by simp) (by simp)
    rwa [← List.append_assoc] at this
  · exact x.of (t.take j) _ [] (t.drop (j + 1)) e2 l1 (by simp)
  · have := x.of (t.take j) _ [z] (t.drop (j + 1)) e2 l1 (by simp)
    rwa [← List.append_assoc] at this
theorem at_some {α : Type} {l : List α} {x : Int} (h0 : 0 ≤ x) (h1 : x < (l.length : Int)) : ∃ z, atI l x = some z ∧ z ∈ l := by
  obtain ⟨j, rfl⟩ := Int.eq_ofNat_of_zero_le h0
  have lt : j < l.length := by omega
  exact ⟨l[j], atI_nat (List.getElem?_eq_getElem lt), List.getElem_mem lt⟩
def spCh : Sp := fun vs H Q _ => ∃ c a ns t, vs = [.ref c, .str (S t)] ∧ Cur H c a ns ∧ t.length ≤ 90000 ∧ Cg t.length 0 t ∧ ∀ H' t', Cur H' c a ns → t'.length ≤ 100000 → mx t' ≤ 500 → peak t' ≤ 60 → Q (.str (S t')) H'
abbrev s_law_changed : Stmt := topS 33
abbrev N_law_changed : List Str := ["c", "text", "k", "at", "sign"]
theorem sc_law_changed : FnScope N_law_changed ["c", "text"] (defScope s_law_changed) := ⟨rfl, rfl, rfl, by decide +kernel, rfl, by decide +kernel, by decide +kernel⟩
theorem ok_law_changed {f f2 : Addr} {fd fd2 : FuncData} (D_law_changed : DefAt K mg "_law_changed" s_law_changed ["c", "text"] f fd) (D_law_take : DefAt K mg "_law_take" s_law_take ["c", "many"] f2 fd2) (z_len : mg "len" = none) (z_int : mg "int" = none) (z_range : mg "range" = none)
    (G_law_take : FnOk P w K mg base CX0 2 f2 fd2 ["c", "many"] spTake) : FnOk P w K mg base CX0 3 f fd ["c", "text"] spCh := by
  refine D_law_changed.F.ok sc_law_changed (fun vs H Q E h => ?_) (fun cdv A outer s H vs Q E hr h => ?_)
  · obtain ⟨c, a, ns, t, rfl, _⟩ := h
    rfl
  obtain ⟨c, a', ns', t0, rfl, cur, hl, cg, q⟩ := h
  refine ⟨_, (pss_cons (ps_for PassesOwn.never rfl (pi_range1 (by rfl) z_range (pa_cons (pe_call G_law_take (hr.mono (by first | decide | omega)) (by rfl) D_law_take.m D_law_take.F.kp D_law_take.b .nil pass0 (pa_cons (pv 0) (pa_cons pe_int pa_nil))) pa_nil)) (pg_name (i := 2) sc_law_changed.nd rfl (Or.inl rfl))
        (pss_cons (ps_set (i := 3) sc_law_changed.nd rfl (Or.inl rfl) (pe_call G_law_take (hr.mono (by first | decide | omega)) (by rfl) D_law_take.m D_law_take.F.kp D_law_take.b .nil pass0 (pa_cons (pv 0) (pa_cons (pe_op op_add (pe_callB call_len (by rfl) z_len (by decide +kernel) (pa_cons (pv 1) pa_nil)) pe_int) pa_nil))))
        (pss_cons (ps_set (i := 4) sc_law_changed.nd rfl (Or.inl rfl) (pe_ix ix_str pe_str (pe_call G_law_take (hr.mono (by first | decide | omega)) (by rfl) D_law_take.m D_law_take.F.kp D_law_take.b .nil pass0 (pa_cons (pv 0) (pa_cons pe_int pa_nil))) (fun _ _ => rfl)))
        (pss_one (ps_set (i := 1) sc_law_changed.nd rfl (Or.inl rfl) (pe_ix ix_list (pe_lst (pa_cons (pe_op op_add_str (pe_op op_add_str (pe_slice sl_str (pv 1) po_none (po_some (pv 3))) (pv 4)) (pe_slice sl_str (pv 1) (po_some (pv 3)) po_none)) (pa_cons (pe_op op_add_str (pe_slice sl_str (pv 1) po_none (po_some (pv 3))) (pe_slice sl_str (pv 1) (po_some (pe_op op_add (pv 3) pe_int)) po_none)) (pa_cons (pe_op op_add_str (pe_op op_add_str (pe_slice sl_str (pv 1) po_none (po_some (pv 3))) (pv 4)) (pe_slice sl_str (pv 1) (po_some (pe_op op_add (pv 3) pe_int)) po_none)) pa_nil)))) (pe_call G_law_take (hr.mono (by first | decide | omega)) (by rfl) D_law_take.m D_law_take.F.kp D_law_take.b .nil pass0 (pa_cons (pv 0) (pa_cons pe_int pa_nil))) (fun _ _ => rfl)))))))
      (pss_one (ps_ret (pe_op op_add_str (pv 1) (pe_op op_repS pe_str (pe_callTy call_int1 (by rfl) z_int (by decide +kernel) (pa_cons (pe_cmpR op_eq (pe_call G_law_take (hr.mono (by first | decide | omega)) (by rfl) D_law_take.m D_law_take.F.kp D_law_take.b .nil pass0 (pa_cons (pv 0) (pa_cons pe_int pa_nil))) pe_int (nomark _)) pa_nil))))))), ?_⟩
  have sl := sizeLine_eq
  refine ⟨_, rfl, c, a', ns', _, rfl, cur, (by decide), (by decide), fun H2 x2 b2 c2 p2 q2 => ?_⟩
  refine ⟨_, rfl, by omega, by omega, for_range (lo := 0) (n := x2.toNat) (fun i σ H' => ∃ t o2 o3 o4, σ = [some (.ref c), some (.str (S t)), o2, o3, o4] ∧ Cur H' c a' ns' ∧ Cg t0.length i t) ⟨t0, _, _, _, rfl, c2, cg⟩ ?_ ?_⟩
  · rintro i σ H' hi ⟨t, o2, o3, o4, rfl, c8, cgi⟩
    have ln := cgi.len
    have tl : t.length ≤ sizeLine := by omega
    -- at = _law_take(c, len(text) + 1)
    refine ⟨_, rfl, _, rfl, _, _, rfl, ⟨tl, rfl⟩, _, _, rfl, rfl, c, a', ns', _, rfl, c8, by show (0 : Int) < (t.length : Int) + 1; omega, by show (t.length : Int) + 1 < _; omega, fun H9 x9 b9 c9 p9 q9 => ?_⟩
    obtain ⟨j, rfl⟩ := Int.eq_ofNat_of_zero_le p9
    -- sign
    refine ⟨_, rfl, c, a', ns', _, rfl, c9, (by decide), (by decide), fun H10 x10 b10 c10 p10 q10 => ?_⟩
    obtain ⟨z, hz, hzm⟩ := at_some (l := (Str.ofString "() \"-TF01aZ~\n+_'5").cps.toList) p10 (by rw [show (Str.ofString "() \"-TF01aZ~\n+_'5").cps.toList.length = 17 by decide +kernel]; exact q10)
    refine ⟨_, _, z, rfl, rfl, (by decide +kernel), hz, ?_⟩
    have lt1 : ∀ i, (t.take i).length ≤ t.length := fun i => by rw [List.length_take]; omega
    have lt2 : ∀ i, (t.drop i).length ≤ t.length := fun i => by rw [List.length_drop]; omega
    have l1 := lt1 j
    have l2 := lt2 j
    have l3 := lt2 (j + 1)
    have sz1 : (S (t.take j)).length + (S [z]).length ≤ sizeLine := by rw [S_len, S_len, List.length_singleton]; omega
    have e1 : ((j : Nat) : Int) + 1 = ((j + 1 : Nat) : Int) := by omega
    refine ⟨_, rfl, _, rfl, _, rfl, _, rfl, tl, _, rfl, ?_⟩
    rw [cut_to]
    refine ⟨_, _, rfl, rfl, sz1, ?_⟩
    refine ⟨_, rfl, _, rfl, _, rfl, _, rfl, tl, ?_⟩
    rw [cut_from, show (⟨#[z]⟩ : Str) = S [z] from rfl, S_app]
    refine ⟨_, _, rfl, rfl, by rw [S_len, S_len, List.length_append, List.length_singleton]; omega, ?_⟩
    rw [S_app]
    refine ⟨_, rfl, _, rfl, _, rfl, _, rfl, tl, ?_⟩
    rw [cut_to]
    refine ⟨_, rfl, _, rfl, _, _, rfl, rfl, _, rfl, _, rfl, tl, ?_⟩
    rw [e1, cut_from]
    refine ⟨_, _, rfl, rfl, by rw [S_len, S_len]; omega, ?_⟩
    rw [S_app]
    refine ⟨_, rfl, _, rfl, _, rfl, _, rfl, tl, _, rfl, ?_⟩
    rw [cut_to]
    refine ⟨_, _, rfl, rfl, sz1, ?_⟩
    refine ⟨_, rfl, _, rfl, _, _, rfl, rfl, _, rfl, _, rfl, tl, ?_⟩
    rw [e1, cut_from, S_app]
    refine ⟨_, _, rfl, rfl, by rw [S_len, S_len, List.length_append, List.length_singleton]; omega, ?_⟩
    rw [S_app]
    refine ⟨by show 3 ≤ sizeLine; omega, fun p3 np3 => ?_⟩
    refine ⟨_, rfl, c, a', ns', _, rfl, c10.new np3, (by decide), (by decide), fun H11 x11 b11 c11 p11 q11 => ?_⟩
    have hp3 := b11 _ _ (c10.ne np3).1 upd_same
    obtain ⟨k1, k2, k3⟩ := cgi.in3 j z
    have three : ∃ t', atI [V.str (S (t.take j ++ [z] ++ t.drop j)), V.str (S (t.take j ++ t.drop (j + 1))), V.str (S (t.take j ++ [z] ++ t.drop (j + 1)))] x11 = some (.str (S t')) ∧ Cg t0.length (i + 1) t' := by
      have : x11 = 0 ∨ x11 = 1 ∨ x11 = 2 := by omega
      rcases this with rfl | rfl | rfl
      · exact ⟨_, rfl, k1⟩
      · exact ⟨_, rfl, k2⟩
      · exact ⟨_, rfl, k3⟩
    obtain ⟨t', ht', chg⟩ := three
    exact ⟨_, _, _, _, rfl, rfl, SqL.of hp3, ht', t', _, _, _, rfl, c11, chg⟩
  · rintro σ H' ⟨t, o2, o3, o4, rfl, c8, cgi⟩
    have ln := cgi.len
    have hmx := cgi.mx
    have hpk := cgi.pk
    have p3 : 2 ^ x2.toNat ≤ 2 ^ 3 := Nat.pow_le_pow_right (by decide) (by omega)
    refine ⟨_, rfl, _, rfl, c, a', ns', _, rfl, c8, (by decide), (by decide), fun H9 x9 b9 c9 p9 q9 => ?_⟩
    refine ⟨rfl, .inr ⟨_, rfl, ?_⟩⟩
    have fin : ∀ k : Nat, k ≤ 1 → Q (.str (S (t ++ (List.replicate k [10]).flatten))) H9 := fun k hk => by
      have e1 : (List.replicate k [10]).flatten.length = k := by simp
      refine q H9 _ c9 ?_ ?_ ?_
      · rw [List.length_append, e1]
        omega
      · have h1 := mx_app t (List.replicate k [10]).flatten
        have h2 := mx_le (List.replicate k [10]).flatten
        omega
      · have h1 := peak_mid (m := []) (m' := (List.replicate k [10]).flatten) (b := []) (by simp) (by omega) t
        rw [List.append_nil, List.append_nil, List.append_nil] at h1
        omega
    have sizes : ∀ k : Nat, k ≤ 1 → (S t).length + (S (List.replicate k [10]).flatten).length ≤ sizeLine := fun k hk => by
      rw [S_len, S_len, show (List.replicate k [10]).flatten.length = k by simp]
      omega
    by_cases h0 : x9 = 0
    · subst h0
      refine ⟨[10], 1, rfl, rfl, by decide, by show 1 * 1 ≤ sizeLine; omega, _, _, rfl, rfl, sizes 1 (by decide), ?_⟩
      rw [S_app]
      exact fin 1 (by decide)
    · refine ⟨[10], 0, rfl, ?_, by decide, by show 1 * 0 ≤ sizeLine; omega, _, _, rfl, rfl, sizes 0 (by decide), ?_⟩
      · rw [show decide (V.int x9 = V.int 0) = false from decide_eq_false fun z => h0 (by injection z)]
        rfl
      rw [S_app]
      exact fin 0 (by decide)
end
end FL

set_option Elab.async false
set_option linter.all false
set_option maxRecDepth 100000
set_option maxHeartbeats 2000000
namespace FL
open PySem PySem.Spec PyProof.Rows L2 PySem.NumText
/-- the error classes -/
structure ErrC (K : PySem.W.Frag) (mg : Str → Option Value) (C C0 C1 C2 C3 : Addr) : Prop where
  g0 : mg "FacetloreError" = some (.ref C0)
  g1 : mg "DomainError" = some (.ref C1)
  g2 : mg "ShapeError" = some (.ref C2)
  g3 : mg "SingularError" = some (.ref C3)
  ex : PySem.W.exmOne K (.ref C) (.ref C0) = some true
  own : PySem.W.kitOne K (.ref C) (.ref C) = some true
  n1 : PySem.W.kitOne K (.ref C) (.ref C1) = some false
  n2 : PySem.W.kitOne K (.ref C) (.ref C2) = some false
  n3 : PySem.W.kitOne K (.ref C) (.ref C3) = some false
  F : IsiE K C
abbrev rIsE (K : PySem.W.Frag) (C a : Addr) (cls : Value) (d : Option Addr) : List V → Hp → VK → Prop := fun xs H Q => ∃ (c : V) (u : Value) (b : Bool) (dd : Addr) (v : V), xs = [.ref a, c] ∧ cls = .ref C ∧ d = some dd ∧ H dd = some (.xd [(("line" : Str), v)]) ∧ ClsV c u ∧ PySem.W.kitOne K (.ref C) u = some b ∧ Q (.bl b) H
abbrev rIsET (K : PySem.W.Frag) (C a : Addr) (cls : Value) (d : Option Addr) : List V → Hp → VK → Prop := fun xs H Q => ∃ (tp : Addr) (cs : List V) (us : List Value) (b : Bool) (dd : Addr) (v : V), xs = [.ref a, .ref tp] ∧ cls = .ref C ∧ d = some dd ∧ H dd = some (.xd [(("line" : Str), v)]) ∧ H tp = some (.tup cs) ∧ Paired ClsV cs us ∧ PySem.W.kitAny K (.ref C) us = some b ∧ Q (.bl b) H
abbrev rIntB : List V → Hp → VK → Prop := fun xs H Q => (∃ i, xs = [V.int i] ∧ Q (V.int i) H) ∨ ∃ k, xs = [V.bl k] ∧ Q (V.int (if k = true then 1 else 0)) H
section
variable {P : Program} {w : World} {K : PySem.W.Frag} {mg : Str → Option Value} {base : Heap} {C fI C0 C1 C2 C3 : Addr}
def spLR (K : PySem.W.Frag) : Sp := fun vs H Q _ => ∃ t : List Nat, vs = [.str (S t)] ∧ t.length ≤ 100000 ∧ mx t ≤ 500 ∧ (∀ d v H' p, parse t = some d → Same H H' → Rp K H' d v → H' p = some (.lst [v]) → Q (.ref p) H') ∧ (parse t = none → ∀ H' p, Same H H' → H' p = some (.lst []) → Q (.ref p) H')
abbrev s_law_read : Stmt := topS 31
abbrev N_law_read : List Str := ["text", "e"]
theorem sc_law_read : FnScope N_law_read ["text"] (defScope s_law_read) := ⟨rfl, rfl, rfl, by decide +kernel, rfl, by decide +kernel, by decide +kernel⟩
theorem ok_law_read {f f1 : Addr} {fd fd1 : FuncData} (D_law_read : DefAt K mg "_law_read" s_law_read ["text"] f fd) (D_read_claim : DefAt K mg "read_claim" s_read_claim ["text"] f1 fd1) (TX : PySem.TeX.TeTxt P K mg C fI) (EX : ErrC K mg C C0 C1 C2 C3) (z_isinstance : mg "isinstance" = none) (z_int : mg "int" = none)
    (G_read_claim : FnOk P w K mg base (L2.CX P w) 7 f1 fd1 ["text"] (spRC K C)) : FnOk P w K mg base CX0 8 f fd ["text"] (spLR K) := by
  refine D_law_read.F.ok sc_law_read (fun vs H Q E h => ?_) (fun cdv A outer s H vs Q E hr h => ?_)
  · obtain ⟨t, rfl, _⟩ := h
    rfl
  obtain ⟨t, rfl, ht, hm, q, b⟩ := h
  refine ⟨_, (pss_one (ps_try_as (i := 1) (c := .ref C0) (tb := fun W => tRet (tLst (tCons (tCallS (spRC K C) (WE W) (tCons (tVar 0) tNil)) tNil)))
      (ts := fun a cls d => tSeq (tIfS (tOr (tNot (tB (tCB (rIsE K C a cls d) (tCons (tVar 1) (tCons (tC (.ref C)) tNil))))) (tB (tCB (rIsET K C a cls d) (tCons (tVar 1) (tCons (tTup (tCons (tC (.ref C1)) (tCons (tC (.ref C2)) (tCons (tC (.ref C3)) tNil)))) tNil))))) (tRet (tC .non)) tNext)
        (tRet (tSl (rSlL K) (tLst (tCons (tC .non) tNil)) tNoPart (tPart (tCB rIntB (tCons (tOp rNe (tLine C a cls d (tVar 1)) (tC (V.int 1))) tNil))))))
      (Wout := fun _ _ _ _ => False) rfl rfl sc_law_read.nd rfl rfl ⟨rfl, by decide, Or.inl EX.g0⟩ takes0
      (fun W pn xe tk _ => pss_one (ps_ret (pe_lst (pa_cons (by exact (pe_callS G_read_claim (hr.mono (by decide)) rfl D_read_claim.m D_read_claim.F.kp D_read_claim.b (fun σ => passAt tk σ) (pa_cons (pv 0) pa_nil))) pa_nil))))
      (fun a oe cls d pn hz hf => pss_cons (ps_if (PW.pt (pw_or (pt_not (pt_val (pe_callB (by exact (call_isiE hz hf EX.F)) (by rfl) z_isinstance (by decide +kernel) (pa_cons (pv 1) (pa_cons (pe_glob (v := .ref C) (by rfl) TX.gC rfl) pa_nil))))) (pw_or1 (pt_val (pe_callB (by exact (call_isiET hz hf EX.F)) (by rfl) z_isinstance (by decide +kernel) (pa_cons (pv 1) (pa_cons (pe_tup (pa_cons (pe_glob (v := .ref C1) (by rfl) EX.g1 rfl) (pa_cons (pe_glob (v := .ref C2) (by rfl) EX.g2 rfl) (pa_cons (pe_glob (v := .ref C3) (by rfl) EX.g3 rfl) pa_nil)))) pa_nil))))))) (pss_one (ps_ret pe_non)) pss_nil)
        (pss_one (ps_ret (pe_slice (by exact sl_list) (pe_lst (pa_cons pe_non pa_nil)) po_none (po_some (pe_callTy call_int1 (by rfl) z_int (by decide +kernel) (pa_cons (pe_cmpR op_ne (by exact (pe_line TX hz hf (pv 1))) pe_int (nomark _)) pa_nil))))))))), ?_⟩
  have sl := sizeLine_eq
  refine ⟨_, rfl, t, rfl, ht, hm, fun d v H' hp s' r' => ?_, fun hp d H' s' hd => ?_⟩
  · refine ⟨by show 1 ≤ sizeLine; omega, fun p np => ?_⟩
    have s2 := same_new s' np (o := .lst [v])
    exact q d v _ p hp s2 (r'.tk (Tk.same (same_new (Same.refl H') np))) upd_same
  · refine ⟨true, EX.ex, fun _ a na => ?_, fun z => nomatch z⟩
    refine ⟨_, rfl, .ref C, .ref C, true, d, _, rfl, rfl, rfl, hd, .own C, EX.own, true, rfl, ?_⟩
    refine ite2 (fun e => nomatch e) (fun _ => ?_)
    refine ⟨_, rfl, by show 3 ≤ sizeLine; omega, fun tp ntp => ?_⟩
    have nd : d ≠ tp := ne_of_none hd ntp
    have any : PySem.W.kitAny K (.ref C) [.ref C1, .ref C2, .ref C3] = some false :=
      kitAny_cons EX.n1 (fun _ => kitAny_cons EX.n2 (fun _ => kitAny_cons EX.n3 (fun _ => kitAny_nil) (fun h => nomatch h)) (fun h => nomatch h)) (fun h => nomatch h)
    refine ⟨tp, _, _, false, d, _, rfl, rfl, rfl, by rw [upd_ne nd]; exact hd, upd_same, .cons (.own C1) (.cons (.own C2) (.cons (.own C3) .nil)), any, false, rfl, ?_⟩
    refine ite2 (fun e => nomatch e) (fun _ => ?_)
    refine ⟨by show 1 ≤ sizeLine; omega, fun p1 np1 => ?_⟩
    have nd1 : d ≠ p1 := ne_of_none (by rw [upd_ne nd]; exact hd) np1
    refine ⟨_, rfl, rfl, rfl, d, _, rfl, by rw [upd_ne nd1, upd_ne nd]; exact hd, rfl, .inr ⟨_, rfl, _, rfl, ?_⟩⟩
    refine ⟨p1, _, rfl, SqL.of upd_same, fun p2 np2 => ?_⟩
    exact b hp _ p2 (same_new (same_new (same_new s' ntp) np1) np2) upd_same
end
end FL

set_option Elab.async false
set_option linter.all false
set_option maxRecDepth 100000
set_option maxHeartbeats 1000000
/-! #### the law's last words, in plain Lean -/
namespace FL
open PySem PySem.NumText
mutual
theorem Cl.mono {j k : Nat} (h : j ≤ k) : ∀ d : PyData, Cl j d → Cl k d
  | .none, _ => True.intro
  | .bool _, _ => True.intro
  | .int _, c => Nat.lt_of_lt_of_le c (Nat.pow_le_pow_right (by decide) h)
  | .str _, c => c
  | .tuple ds, c => Cls.mono h ds c
  | .list _, c => c.elim
  | .dict _, c => c.elim
theorem Cls.mono {j k : Nat} (h : j ≤ k) : ∀ ds : List PyData, Cls j ds → Cls k ds
  | [], _ => True.intro
  | d :: ds, c => ⟨Cl.mono h d c.1, Cls.mono h ds c.2⟩
end
mutual
theorem good_lay : ∀ (n : Nat) (d : PyData), Good n d → d.canLay0 = true
  | _, .none, _ => rfl
  | _, .bool _, _ => rfl
  | _, .int _, _ => rfl
  | _, .str x, h => by
    show x.cps.all (· < 0x110000) = true
    rw [Array.all_eq_true_iff_forall_mem]
    intro c hc
    have := h.2 c (by simpa using hc)
    exact decide_eq_true ((by decide : ∀ c ∈ lawLetters, c < 0x110000) c this)
  | n, .tuple ds, h => by
    obtain ⟨m, rfl, _, hs⟩ := h
    exact goods_lay m ds hs
  | _, .list _, h => h.elim
  | _, .dict _, h => h.elim
theorem goods_lay : ∀ (n : Nat) (ds : List PyData), GoodAll n ds → PyData.canLayAll0 ds = true
  | _, [], _ => rfl
  | n, d :: ds, h => by
    have h1 := good_lay n d h.1
    have h2 := goods_lay n ds h.2
    simp [PyData.canLayAll0, h1, h2]
end
mutual
theorem good_depth : ∀ (n : Nat) (d : PyData), Good n d → d.depth ≤ n
  | _, .none, _ => Nat.zero_le _
  | _, .bool _, _ => Nat.zero_le _
  | _, .int _, _ => Nat.zero_le _
  | _, .str x, h => Nat.zero_le _
  | n, .tuple ds, h => by
    obtain ⟨m, rfl, _, hs⟩ := h
    have := goods_depth m ds hs
    show PyData.depthAll ds + 1 ≤ m + 1
    omega
  | _, .list _, h => h.elim
  | _, .dict _, h => h.elim
theorem goods_depth : ∀ (n : Nat) (ds : List PyData), GoodAll n ds → PyData.depthAll ds ≤ n
  | _, [], _ => Nat.zero_le _
  | n, d :: ds, h => by
    have h1 := good_depth n d h.1
    have h2 := goods_depth n ds h.2
    show max d.depth (PyData.depthAll ds) ≤ n
    omega
end
/-- the law's value -/
structure Top (ds : List PyData) : Prop where
  cl : Cl 500 (.tuple ds)
  len : (wr (.tuple ds)).length ≤ 99990
  mx : mx (wr (.tuple ds)) ≤ 50
  dep : dep (.tuple ds) ≤ 5
  pk : peak (wr (.tuple ds)) ≤ 5
  ps : parse (wr (.tuple ds)) = some (.tuple ds)
  sh : SeqAt.shaped (.list [.tuple ds]) = true
  small : (wr (.tuple ds)).length ≤ 90000
  eq : PyData.eqv (.list [.tuple ds]) (.list [.tuple ds]) = true
theorem top_of {ds : List PyData} (hl : ds.length ≤ 5) (h : GoodAll 4 ds) : Top ds := by
  have c : Cl 500 (.tuple ds) := Cls.mono (by decide) ds (goods_cl 4 ds h)
  have hd : FL.dep (.tuple ds) ≤ 5 := by
    have := goods_dep 4 ds h
    rw [FL.dep]
    omega
  have lay : (PyData.list [.tuple ds]).canLay0 = true := by
    show PyData.canLayAll0 [.tuple ds] = true
    have : (PyData.tuple ds).canLay0 = true := goods_lay 4 ds h
    simp [PyData.canLayAll0, this]
  have hlen : (wr (.tuple ds)).length ≤ 90000 := by
    have h1 := goods_len 4 ds h
    have h2 := jn_len ds
    have h3 : (wr (.tuple ds)).length = (jn [32] (wrs ds)).length + 2 := by show (40 :: jn [32] (wrs ds) ++ [41]).length = _; simp
    have h4 : bnd 4 = 13310 := by decide
    rw [h4] at h1
    have h5 := Nat.mul_le_mul_right (13310 + 1) hl
    omega
  refine ⟨c, ?_, ?_, hd, ?_, parse_wr c, ?_, hlen, SeqAt.eqv_refl _ lay⟩
  · have h1 := goods_len 4 ds h
    have h2 := jn_len ds
    have h3 : (wr (.tuple ds)).length = (jn [32] (wrs ds)).length + 2 := by show (40 :: jn [32] (wrs ds) ++ [41]).length = _; simp
    have h4 : bnd 4 = 13310 := by decide
    rw [h4] at h1
    have h5 := Nat.mul_le_mul_right (13310 + 1) hl
    omega
  · show FL.mx (40 :: (jn [32] (wrs ds) ++ [41])) ≤ 50
    have h1 := goods_mx 4 ds h [41] rfl
    have h2 : FL.mx [41] = 0 := rfl
    have h3 : FL.hd (40 :: (jn [32] (wrs ds) ++ [41])) = 0 := rfl
    rw [FL.mx, h3]
    omega
  · have := peak_wr (.tuple ds) c []
    rw [List.append_nil] at this
    rw [this]
    have : peak [] = 0 := rfl
    omega
  · unfold SeqAt.shaped
    rw [lay, Bool.true_and]
    refine decide_eq_true ?_
    have := goods_depth 4 ds h
    show max (PyData.depthAll ds + 1) 0 + 1 ≤ 64
    omega
theorem peak_le : ∀ t : List Nat, peak t ≤ (t.length : Int)
  | [] => Int.le_refl _
  | c :: r => by
    have h1 := peak_le r
    have h2 := dl_two c
    rw [peak, List.length_cons]
    omega
/-- what the reader found in a text -/
theorem read_of {t : List Nat} {d : PyData} (hm : FL.mx t ≤ 500) (hp : peak t ≤ 60) (h : parse t = some d) : Cl 500 d ∧ FL.dep d < 61 ∧ wr d = t := by
  obtain ⟨h1, h2, h3⟩ := parse_some h
  have cl := (RD_one (k := 500) hm h1).1
  refine ⟨cl, ?_, h3⟩
  have := peak_wr d cl []
  rw [List.append_nil, h3] at this
  have : peak [] = 0 := rfl
  omega
def pieces : List Str := ["(", ")", ") (", " ", " ", "\"", "\"a b\"", "a", "1", "0", "-", "T", "F", "+1", "1_0", "~", "\n", "-0", "01", "12"]
theorem pieces_small : ∀ x ∈ pieces, x.cps.size ≤ 5 := by decide +kernel
theorem flat_small : ∀ zs : List (List Nat), (∀ z ∈ zs, z.length ≤ 5) → zs.flatten.length ≤ 5 * zs.length
  | [], _ => Nat.le_refl _
  | z :: zs, h => by
    have h1 := flat_small zs fun x hx => h x (List.mem_cons_of_mem _ hx)
    have h2 := h z (List.mem_cons_self ..)
    rw [List.flatten_cons, List.length_append, List.length_cons]
    omega
end FL

set_option Elab.async false
set_option linter.all false
set_option maxRecDepth 100000
set_option maxHeartbeats 2000000
namespace FL
open PySem PySem.Spec PyProof.Rows L2 PySem.NumText
section
variable {P : Program} {w : World} {K : PySem.W.Frag} {mg : Str → Option Value} {base : Heap} {C fI : Addr}
def spLaw (K : PySem.W.Frag) : Sp := fun vs H Q _ => ∃ (a : Addr) (ns : List Int), vs = [.ref a] ∧ SqL K H a (ns.map V.int) ∧ ns.length ≤ 63 ∧ ∀ H', Q (.bl true) H'
abbrev s_law : Stmt := topS 34
abbrev N_law : List Str := ["script", "c", "text", "pieces", "due", "told", "k", "j"]
theorem sc_law : FnScope N_law ["script"] (defScope s_law) := ⟨rfl, rfl, rfl, by decide +kernel, rfl, by decide +kernel, by decide +kernel⟩
theorem ok_law {f f1 f2 f3 f4 f5 f6 f7 f8 : Addr} {fd fd1 fd2 fd3 fd4 fd5 fd6 fd7 fd8 : FuncData} (D_law : DefAt K mg "law" s_law ["script"] f fd) (D_law_start : DefAt K mg "_law_start" s_law_start ["script"] f1 fd1) (D_law_take : DefAt K mg "_law_take" s_law_take ["c", "many"] f2 fd2)
    (D_law_value : DefAt K mg "_law_value" s_law_value ["c", "depth"] f3 fd3) (D_law_written : DefAt K mg "_law_written" s_law_written ["value"] f4 fd4) (D_law_changed : DefAt K mg "_law_changed" s_law_changed ["c", "text"] f5 fd5) (D_law_read : DefAt K mg "_law_read" s_law_read ["text"] f6 fd6)
    (D_law_tuple_of : DefAt K mg "_law_tuple_of" s_law_tuple_of ["text"] f7 fd7) (D_law_same : DefAt K mg "_law_same" s_law_same ["one", "two"] f8 fd8)
    (z_tuple : mg "tuple" = none) (z_range : mg "range" = none)
    (G_law_start : FnOk P w K mg base CX0 1 f1 fd1 ["script"] (spLS K)) (G_law_take : FnOk P w K mg base CX0 2 f2 fd2 ["c", "many"] spTake) (G_law_value : FnOk P w K mg base CX0 8 f3 fd3 ["c", "depth"] (spValue K 5)) (G_law_written : FnOk P w K mg base CX0 8 f4 fd4 ["value"] (spLM K 8))
    (G_law_changed : FnOk P w K mg base CX0 3 f5 fd5 ["c", "text"] spCh) (G_law_read : FnOk P w K mg base CX0 8 f6 fd6 ["text"] (spLR K)) (G_law_tuple_of : FnOk P w K mg base CX0 2 f7 fd7 ["text"] (spTO K)) (G_law_same : FnOk P w K mg base CX0 61 f8 fd8 ["one", "two"] (spSame K 61)) : FnOk P w K mg base CX0 62 f fd ["script"] (spLaw K) := by
  refine D_law.F.ok sc_law (fun vs H Q E h => ?_) (fun cdv A outer s H vs Q E hr h => ?_)
  · obtain ⟨a, ns, rfl, _⟩ := h
    rfl
  obtain ⟨a, ns, rfl, sq, hns, q⟩ := h
  have hu := hr.units
  refine ⟨_, (pss_cons (ps_set (i := 1) sc_law.nd rfl (Or.inr rfl) (pe_call G_law_start (hr.mono (by first | decide | omega)) (by rfl) D_law_start.m D_law_start.F.kp D_law_start.b .nil pass0 (pa_cons (pv 0) pa_nil)))
      (pss_cons (ps_set (i := 2) sc_law.nd rfl (Or.inl rfl) (pe_call G_law_changed (hr.mono (by first | decide | omega)) (by rfl) D_law_changed.m D_law_changed.F.kp D_law_changed.b .nil pass0 (pa_cons (pv 1) (pa_cons (pe_call G_law_written (hr.mono (by first | decide | omega)) (by rfl) D_law_written.m D_law_written.F.kp D_law_written.b .nil pass0 (pa_cons (pe_callTy call_tuple_of (by rfl) z_tuple (by decide +kernel) (pa_cons (pe_lc (own := [("j", 7)]) (g := gName 7) (by rfl) sc_law.nd (pi_range1 (by rfl) z_range (pa_cons (pe_call G_law_take (hr.mono (by first | decide | omega)) (by rfl) D_law_take.m D_law_take.F.kp D_law_take.b .nil pass0 (pa_cons (pv 1) (pa_cons pe_int pa_nil))) pa_nil)) (blkOk_by (own := [("j", 7)]) (N := N_law) (sc := (defScope s_law)) (by decide +kernel)) (fun _ _ _ _ _ => (pg_name (i := 7) sc_law.nd rfl (Or.inl rfl))) (fun _ _ _ _ _ => pts_nil) (fun _ _ _ _ _ => (pe_call G_law_value (hr.mono (by first | decide | omega)) (by rfl) D_law_value.m D_law_value.F.kp D_law_value.b .nil pass0 (pa_cons (pv 1) (pa_cons pe_int pa_nil))))) pa_nil)) pa_nil)) pa_nil))))
      (C8.pss_cut (ps_if (pt_cmpR op_eq (pe_call G_law_take (hr.mono (by first | decide | omega)) (by rfl) D_law_take.m D_law_take.F.kp D_law_take.b .nil pass0 (pa_cons (pv 1) (pa_cons pe_int pa_nil))) pe_int (nomark _)) (pss_cons (ps_set (i := 3) sc_law.nd rfl (Or.inr rfl) (pe_lst (pa_cons pe_str (pa_cons pe_str (pa_cons pe_str (pa_cons pe_str (pa_cons pe_str (pa_cons pe_str (pa_cons pe_str (pa_cons pe_str (pa_cons pe_str (pa_cons pe_str (pa_cons pe_str (pa_cons pe_str (pa_cons pe_str (pa_cons pe_str (pa_cons pe_str (pa_cons pe_str (pa_cons pe_str (pa_cons pe_str (pa_cons pe_str (pa_cons pe_str pa_nil))))))))))))))))))))))
        (pss_cons (ps_set (i := 2) sc_law.nd rfl (Or.inl rfl) (pe_join pe_str (pe_lc (own := [("k", 6)]) (g := gName 6) (by rfl) sc_law.nd (pi_range1 (by rfl) z_range (pa_cons (pe_call G_law_take (hr.mono (by first | decide | omega)) (by rfl) D_law_take.m D_law_take.F.kp D_law_take.b .nil pass0 (pa_cons (pv 1) (pa_cons pe_int pa_nil))) pa_nil)) (blkOk_by (own := [("k", 6)]) (N := N_law) (sc := (defScope s_law)) (by decide +kernel)) (fun _ _ _ _ _ => (pg_name (i := 6) sc_law.nd rfl (Or.inl rfl))) (fun _ _ _ _ _ => pts_nil) (fun _ _ _ _ _ => (pe_ix (show IxR _ (rIxL K) from ix_list) (pv 3) (pe_call G_law_take (hr.mono (by first | decide | omega)) (by rfl) D_law_take.m D_law_take.F.kp D_law_take.b .nil pass0 (pa_cons (pv 1) (pa_cons pe_int pa_nil))) (fun _ _ => rfl))))))
        (pss_one (ps_if (pt_cmpR op_gt (pe_call G_law_take (hr.mono (by first | decide | omega)) (by rfl) D_law_take.m D_law_take.F.kp D_law_take.b .nil pass0 (pa_cons (pv 1) (pa_cons pe_int pa_nil))) pe_int (nomark _)) (pss_one (ps_set (i := 2) sc_law.nd rfl (Or.inl rfl) (pe_op op_add_str (pe_op op_add_str pe_str (pv 2)) pe_str)))
          pss_nil))))
        pss_nil)
      (pss_cons (ps_set (i := 4) sc_law.nd rfl (Or.inl rfl) (pe_call G_law_tuple_of (hr.mono (by first | decide | omega)) (by rfl) D_law_tuple_of.m D_law_tuple_of.F.kp D_law_tuple_of.b .nil pass0 (pa_cons (pv 2) pa_nil)))
      (pss_cons (ps_set (i := 5) sc_law.nd rfl (Or.inl rfl) (pe_call G_law_read (hr.mono (by first | decide | omega)) (by rfl) D_law_read.m D_law_read.F.kp D_law_read.b .nil pass0 (pa_cons (pv 2) pa_nil)))
      (pss_cons (ps_if (PW.pt (pw_or (pt_not (pt_truth (pv 4) (by intro _; rfl))) (pw_or1 (pt_not (pt_truth (pv 5) (by intro _; rfl)))))) (pss_one (ps_ret (pe_cmpR (op_eqD hu) (pv 5) (pv 4) (nomark _))))
        pss_nil)
      (pss_one (ps_ret (pe_call G_law_same (hr.mono (by first | decide | omega)) (by rfl) D_law_same.m D_law_same.F.kp D_law_same.b .nil pass0 (pa_cons (pe_ix ix_list (pv 5) pe_int (fun _ _ => rfl)) (pa_cons (pe_ix ix_list (pv 4) pe_int (fun _ _ => rfl)) pa_nil))))))))))), ?_⟩
  have sl := sizeLine_eq
  -- c = _law_start(script)
  refine ⟨_, rfl, a, ns, rfl, sq, fun H1 c a' ns' s1 c1 => ?_⟩
  -- text = _law_changed(c, _law_written(tuple(..)))
  refine ⟨_, rfl, _, rfl, c, a', ns', _, rfl, c1, (by decide), (by decide), fun H2 x2 b2 c2 p2 q2 => ?_⟩
  refine ⟨_, rfl, by omega, by omega, fun D nD => ?_⟩
  have nDc := c2.ne nD
  refine lc_range (lo := 0) (n := x2.toNat) (fun i H3 => ∃ vs ds, H3 D = some (.lst vs) ∧ vs.length = i ∧ RpAll K H3 ds vs ∧ GoodAll 4 ds ∧ Cur H3 c a' ns') ⟨[], [], upd_same, rfl, rfl, True.intro, c2.new nD⟩ ?_ ?_
  · rintro i H3 hi ⟨vs, ds, hv, hl, hr3, hg, c3⟩
    refine ⟨rfl, ?_⟩
    dsimp only [tYes]
    try rw [if_pos rfl]
    refine ⟨_, rfl, c, a', ns', 4, rfl, by omega, by omega, c3, fun H4 v d b4 c4 r4 g4 => ?_⟩
    have hv4 : H4 D = some (.lst vs) := b4 _ _ nDc.1 hv
    have tk5 : Tk K H4 (upd H4 D (.lst (vs ++ [v]))) := Tk.mut hv4
    exact ⟨vs, hv4, by omega, vs ++ [v], ds ++ [d], upd_same, by simp [hl], RpAll.snoc (Rp.tk tk5 _ _ r4) (RpAll.tk ((c3.tk b4).trans tk5) _ _ hr3), GoodAll.snoc g4 hg, c4.upd nDc⟩
  rintro H3 ⟨vs, ds, hv, hl, hr3, hg, c3⟩
  refine ⟨_, _, rfl, .inl ⟨SqL.of hv, fun l nl => ?_⟩⟩
  have T : Top ds := top_of (by have := hr3.len; omega) hg
  have s4 : Same H3 (upd H3 l (.tup vs)) := same_new (Same.refl H3) nl
  have c4 := c3.keep s4
  have rp : Rp K (upd H3 l (.tup vs)) (.tuple ds) (.ref l) := ⟨l, vs, rfl, SqT.of upd_same, RpAll.tk (Tk.same s4) _ _ hr3⟩
  generalize upd H3 l (.tup vs) = H4 at c4 rp ⊢
  have hd := T.dep
  have hlen := T.len
  refine ⟨.tuple ds, _, rfl, rp, T.cl, by omega, by omega, fun H5 s5 => ?_⟩
  have c5 := c4.keep s5
  refine ⟨c, a', ns', _, rfl, c5, T.small, ⟨Nat.le_refl _, by have := T.mx; omega, by have := T.pk; omega⟩, fun H6 t c6 tl tm tp => ?_⟩
  clear rp T hd hlen s4 c1 c2 c3 c4 c5
  -- if _law_take(c, 3) == 0
  refine ⟨fun σ' H' => ∃ o3 o6 o7 t, σ' = [some (.ref a), some (.ref c), some (.str (S t)), o3, none, none, o6, o7] ∧ t.length ≤ 100000 ∧ mx t ≤ 500 ∧ peak t ≤ 60, ?_, ?_⟩
  · refine ⟨_, rfl, c, a', ns', _, rfl, c6, (by decide), (by decide), fun H7 x7 b7 c7 p7 q7 => ?_⟩
    refine ⟨rfl, _, rfl, ite2 (fun e => ?_) (fun e => ⟨_, _, _, t, rfl, tl, tm, tp⟩)⟩
    refine ⟨by show 20 ≤ sizeLine; omega, fun pp npp => ?_⟩
    have hpp : upd H7 pp (.lst (pieces.map V.str)) pp = some (.lst (pieces.map V.str)) := upd_same
    have c8 : Cur (upd H7 pp (.lst (pieces.map V.str))) c a' ns' := c7.new npp
    show tSeq _ _ _ _ (upd H7 pp (.lst (pieces.map V.str)))
    generalize upd H7 pp (.lst (pieces.map V.str)) = H8 at hpp c8 ⊢
    have ppc : pp ≠ c ∧ pp ≠ a' := by
      obtain ⟨pq, acc, kk, dd⟩ := c7
      constructor
      · rintro rfl
        rw [dd.hc] at npp
        cases npp
      · rintro rfl
        rw [dd.ha] at npp
        cases npp
    refine ⟨⟨_, rfl⟩, _, rfl, c, a', ns', _, rfl, c8, (by decide), (by decide), fun H9 x9 b9 c9 p9 q9 => ?_⟩
    have hpp9 := b9 _ _ ppc.1 hpp
    refine ⟨_, rfl, by omega, by omega, fun D2 nD2 => ?_⟩
    have nD2c := c9.ne nD2
    have nD2p : pp ≠ D2 := ne_of_none hpp9 nD2
    refine lc_range (lo := 0) (n := x9.toNat) (fun i H' => ∃ zs : List (List Nat), H' D2 = some (.lst ((zs.map S).map V.str)) ∧ zs.length = i ∧ (∀ z ∈ zs, z.length ≤ 5) ∧ Cur H' c a' ns' ∧ H' pp = some (.lst (pieces.map V.str))) ⟨[], upd_same, rfl, (fun _ h => nomatch h), c9.new nD2, by rw [upd_ne nD2p]; exact hpp9⟩ ?_ ?_
    · rintro i H' hi ⟨zs, hz, hzl, hza, c10, hpp10⟩
      refine ⟨rfl, ?_⟩
      dsimp only [tYes]
      try rw [if_pos rfl]
      refine ⟨_, rfl, _, rfl, c, a', ns', _, rfl, c10, (by decide), (by decide), fun H11 x11 b11 c11 p11 q11 => ?_⟩
      have hpp11 := b11 _ _ ppc.1 hpp10
      have hz11 := b11 _ _ nD2c.1 hz
      obtain ⟨v, hv, hvm⟩ := at_some (l := pieces.map V.str) p11 q11
      obtain ⟨x, hxm, rfl⟩ := List.mem_map.mp hvm
      have xs := pieces_small x hxm
      refine ⟨_, _, _, _, rfl, rfl, SqL.of hpp11, hv, _, hz11, ?_, zs ++ [x.cps.toList], ?_, by simp [hzl], ?_, c11.upd nD2c, by rw [upd_ne nD2p]; exact hpp11⟩
      · rw [List.length_map, List.length_map]
        omega
      · rw [upd_same, List.map_append, List.map_append]
        show some (HO.lst (_ ++ [V.str x])) = some (HO.lst (_ ++ [V.str (S x.cps.toList)]))
        rw [S_of]
      · intro z hz
        rcases List.mem_append.mp hz with hz | hz
        · exact hza z hz
        · rw [List.mem_singleton.mp hz, Array.length_toList]
          exact xs
    · rintro H' ⟨zs, hz, hzl, hza, c10, hpp10⟩
      have fl := flat_small zs hza
      refine ⟨S [], D2, zs.map S, rfl, rfl, .inl (SqL.of hz), ?_, ?_⟩
      · rw [sum_S]
        show zs.flatten.length + _ * 0 ≤ _
        omega
      rw [join_txt, jn_nil]
      have small : ∀ t : List Nat, t.length ≤ 52 → t.length ≤ 100000 ∧ mx t ≤ 500 ∧ peak t ≤ 60 := fun t h => by
        have h1 := mx_le t
        have h2 := peak_le t
        exact ⟨by omega, by omega, by omega⟩
      refine ⟨_, rfl, c, a', ns', _, rfl, c10, (by decide), (by decide), fun H11 x11 b11 c11 p11 q11 => ?_⟩
      refine ⟨_, _, rfl, rfl, _, rfl, ite2 (fun e => ?_) (fun e => ?_)⟩
      · refine ⟨_, rfl, _, _, rfl, rfl, ?_, _, _, rfl, rfl, ?_, ?_⟩
        · show 1 + zs.flatten.length ≤ sizeLine
          omega
        · rw [show Str.ofString "(" = S [40] from rfl, S_app, S_len]
          show (40 :: zs.flatten).length + 1 ≤ sizeLine
          rw [List.length_cons]
          omega
        · rw [show Str.ofString "(" = S [40] from rfl, show Str.ofString ")" = S [41] from rfl, S_app, S_app]
          exact ⟨_, _, _, _, rfl, small _ (by simp only [List.length_append, List.length_cons, List.length_nil]; omega)⟩
      · exact ⟨_, _, _, _, rfl, small _ (by omega)⟩
  rintro σ' H' ⟨o3, o6, o7, t, rfl, tl, tm, tp⟩
  cases hp : parse t with
  | none =>
    refine ⟨_, rfl, t, rfl, tl, tm, fun d v H9 p h => (nomatch hp.symm.trans h), fun _ H9 p9 s9 h9 => ?_⟩
    refine ⟨_, rfl, t, rfl, tl, tm, fun d v H9 p h => (nomatch hp.symm.trans h), fun _ H10 p10 s10 h10 => ?_⟩
    have h9' := s10 _ _ h9
    refine ⟨_, rfl, _, .inl ⟨_, SqL.of h9', rfl⟩, ite2 (fun _ => ite2 (fun _ => ?_) (fun e => absurd rfl e)) (fun e => absurd rfl e)⟩
    refine ⟨_, rfl, _, rfl, .list [], .list [], .lst (SqL.of h10) .nil, .lst (SqL.of h9') .nil, by decide, by decide, ?_⟩
    exact q _
  | some d =>
    obtain ⟨cl, dp, ew⟩ := read_of tm tp hp
    have dl : (wr d).length ≤ 1000000 := by rw [ew]; omega
    refine ⟨_, rfl, t, rfl, tl, tm, fun d' v H9 p9 h s9 r9 h9 => ?_, fun h => (nomatch hp.symm.trans h)⟩
    obtain rfl : d = d' := Option.some.inj (hp.symm.trans h)
    refine ⟨_, rfl, t, rfl, tl, tm, fun d'' v' H10 p10 h s10 r10 h10 => ?_, fun h => (nomatch hp.symm.trans h)⟩
    obtain rfl : d = d'' := Option.some.inj (hp.symm.trans h)
    have h9' := s10 _ _ h9
    have r9' := r9.tk (Tk.same s10)
    refine ⟨_, rfl, _, .inl ⟨_, SqL.of h9', rfl⟩, ite2 (fun e => nomatch e) (fun _ => ?_)⟩
    refine ⟨_, rfl, _, .inl ⟨_, SqL.of h10, rfl⟩, ite2 (fun e => nomatch e) (fun _ => ?_)⟩
    refine ⟨_, rfl, _, _, 0, v', rfl, rfl, SqL.of h10, rfl, _, rfl, _, _, 0, v, rfl, rfl, SqL.of h9', rfl, d, v', v, rfl, r10, r9', cl, dp, dl, fun H11 _ => q _⟩
end
end FL

set_option Elab.async false
set_option linter.all false
set_option maxRecDepth 100000
set_option maxHeartbeats 4000000
namespace FL
open PySem PySem.Spec PyProof.Rows L2
theorem all_mk {P : Program} {w : World} {K : PySem.W.Frag} {h : Heap} {mg : Str → Option Value} {fa : Addr} (X : K.In h) (G : h.Ns mainGlobals mg) (hfa : mg "law" = some (.ref fa))
    {f_piece_base : Addr} {od_piece_base an_piece_base : Option Addr} {sl_piece_base : Array (Option Value)} {oc_piece_base kV_piece_base dc_piece_base pm_piece_base cd_piece_base ct_piece_base : Value}
    (a_piece_base : PySem.W.nsIn K mainGlobals "piece_base" = some (some (.ref f_piece_base)))
    (l_piece_base : K.lookup f_piece_base = some ⟨oc_piece_base, od_piece_base, .func (PySem.W.fnOf "piece_base" "piece_base" (defArgs s_piece_base) (defBody s_piece_base) (defScope s_piece_base) .none kV_piece_base dc_piece_base pm_piece_base an_piece_base cd_piece_base ct_piece_base), sl_piece_base⟩)
    (c_piece_base : PySem.W.codeIn K cd_piece_base "piece_base" = true) (k_piece_base : PySem.W.keepIn K (.ref f_piece_base) = true)
    {f_write_integer : Addr} {od_write_integer an_write_integer : Option Addr} {sl_write_integer : Array (Option Value)} {oc_write_integer kV_write_integer dc_write_integer pm_write_integer cd_write_integer ct_write_integer : Value}
    (a_write_integer : PySem.W.nsIn K mainGlobals "write_integer" = some (some (.ref f_write_integer)))
    (l_write_integer : K.lookup f_write_integer = some ⟨oc_write_integer, od_write_integer, .func (PySem.W.fnOf "write_integer" "write_integer" (defArgs s_write_integer) (defBody s_write_integer) (defScope s_write_integer) .none kV_write_integer dc_write_integer pm_write_integer an_write_integer cd_write_integer ct_write_integer), sl_write_integer⟩)
    (c_write_integer : PySem.W.codeIn K cd_write_integer "write_integer" = true) (k_write_integer : PySem.W.keepIn K (.ref f_write_integer) = true)
    {f_fail : Addr} {od_fail an_fail : Option Addr} {sl_fail : Array (Option Value)} {oc_fail kV_fail dc_fail pm_fail cd_fail ct_fail : Value}
    (a_fail : PySem.W.nsIn K mainGlobals "fail" = some (some (.ref f_fail)))
    (l_fail : K.lookup f_fail = some ⟨oc_fail, od_fail, .func (PySem.W.fnOf "fail" "fail" (defArgs s_fail) (defBody s_fail) (defScope s_fail) .none kV_fail dc_fail pm_fail an_fail cd_fail ct_fail), sl_fail⟩)
    (c_fail : PySem.W.codeIn K cd_fail "fail" = true) (k_fail : PySem.W.keepIn K (.ref f_fail) = true)
    {f_read_natural : Addr} {od_read_natural an_read_natural : Option Addr} {sl_read_natural : Array (Option Value)} {oc_read_natural kV_read_natural dc_read_natural pm_read_natural cd_read_natural ct_read_natural : Value}
    (a_read_natural : PySem.W.nsIn K mainGlobals "read_natural" = some (some (.ref f_read_natural)))
    (l_read_natural : K.lookup f_read_natural = some ⟨oc_read_natural, od_read_natural, .func (PySem.W.fnOf "read_natural" "read_natural" (defArgs s_read_natural) (defBody s_read_natural) (defScope s_read_natural) .none kV_read_natural dc_read_natural pm_read_natural an_read_natural cd_read_natural ct_read_natural), sl_read_natural⟩)
    (c_read_natural : PySem.W.codeIn K cd_read_natural "read_natural" = true) (k_read_natural : PySem.W.keepIn K (.ref f_read_natural) = true)
    {f_read_integer : Addr} {od_read_integer an_read_integer : Option Addr} {sl_read_integer : Array (Option Value)} {oc_read_integer kV_read_integer dc_read_integer pm_read_integer cd_read_integer ct_read_integer : Value}
    (a_read_integer : PySem.W.nsIn K mainGlobals "read_integer" = some (some (.ref f_read_integer)))
    (l_read_integer : K.lookup f_read_integer = some ⟨oc_read_integer, od_read_integer, .func (PySem.W.fnOf "read_integer" "read_integer" (defArgs s_read_integer) (defBody s_read_integer) (defScope s_read_integer) .none kV_read_integer dc_read_integer pm_read_integer an_read_integer cd_read_integer ct_read_integer), sl_read_integer⟩)
    (c_read_integer : PySem.W.codeIn K cd_read_integer "read_integer" = true) (k_read_integer : PySem.W.keepIn K (.ref f_read_integer) = true)
    {f_word_of : Addr} {od_word_of an_word_of : Option Addr} {sl_word_of : Array (Option Value)} {oc_word_of kV_word_of dc_word_of pm_word_of cd_word_of ct_word_of : Value}
    (a_word_of : PySem.W.nsIn K mainGlobals "word_of" = some (some (.ref f_word_of)))
    (l_word_of : K.lookup f_word_of = some ⟨oc_word_of, od_word_of, .func (PySem.W.fnOf "word_of" "word_of" (defArgs s_word_of) (defBody s_word_of) (defScope s_word_of) .none kV_word_of dc_word_of pm_word_of an_word_of cd_word_of ct_word_of), sl_word_of⟩)
    (c_word_of : PySem.W.codeIn K cd_word_of "word_of" = true) (k_word_of : PySem.W.keepIn K (.ref f_word_of) = true)
    {f_write_claim : Addr} {od_write_claim an_write_claim : Option Addr} {sl_write_claim : Array (Option Value)} {oc_write_claim kV_write_claim dc_write_claim pm_write_claim cd_write_claim ct_write_claim : Value}
    (a_write_claim : PySem.W.nsIn K mainGlobals "write_claim" = some (some (.ref f_write_claim)))
    (l_write_claim : K.lookup f_write_claim = some ⟨oc_write_claim, od_write_claim, .func (PySem.W.fnOf "write_claim" "write_claim" (defArgs s_write_claim) (defBody s_write_claim) (defScope s_write_claim) .none kV_write_claim dc_write_claim pm_write_claim an_write_claim cd_write_claim ct_write_claim), sl_write_claim⟩)
    (c_write_claim : PySem.W.codeIn K cd_write_claim "write_claim" = true) (k_write_claim : PySem.W.keepIn K (.ref f_write_claim) = true)
    {f_read_word : Addr} {od_read_word an_read_word : Option Addr} {sl_read_word : Array (Option Value)} {oc_read_word kV_read_word dc_read_word pm_read_word cd_read_word ct_read_word : Value}
    (a_read_word : PySem.W.nsIn K mainGlobals "read_word" = some (some (.ref f_read_word)))
    (l_read_word : K.lookup f_read_word = some ⟨oc_read_word, od_read_word, .func (PySem.W.fnOf "read_word" "read_word" (defArgs s_read_word) (defBody s_read_word) (defScope s_read_word) .none kV_read_word dc_read_word pm_read_word an_read_word cd_read_word ct_read_word), sl_read_word⟩)
    (c_read_word : PySem.W.codeIn K cd_read_word "read_word" = true) (k_read_word : PySem.W.keepIn K (.ref f_read_word) = true)
    {f_word_end : Addr} {od_word_end an_word_end : Option Addr} {sl_word_end : Array (Option Value)} {oc_word_end kV_word_end dc_word_end pm_word_end cd_word_end ct_word_end : Value}
    (a_word_end : PySem.W.nsIn K mainGlobals "word_end" = some (some (.ref f_word_end)))
    (l_word_end : K.lookup f_word_end = some ⟨oc_word_end, od_word_end, .func (PySem.W.fnOf "word_end" "word_end" (defArgs s_word_end) (defBody s_word_end) (defScope s_word_end) .none kV_word_end dc_word_end pm_word_end an_word_end cd_word_end ct_word_end), sl_word_end⟩)
    (c_word_end : PySem.W.codeIn K cd_word_end "word_end" = true) (k_word_end : PySem.W.keepIn K (.ref f_word_end) = true)
    {f_string_at : Addr} {od_string_at an_string_at : Option Addr} {sl_string_at : Array (Option Value)} {oc_string_at kV_string_at dc_string_at pm_string_at cd_string_at ct_string_at : Value}
    (a_string_at : PySem.W.nsIn K mainGlobals "string_at" = some (some (.ref f_string_at)))
    (l_string_at : K.lookup f_string_at = some ⟨oc_string_at, od_string_at, .func (PySem.W.fnOf "string_at" "string_at" (defArgs s_string_at) (defBody s_string_at) (defScope s_string_at) .none kV_string_at dc_string_at pm_string_at an_string_at cd_string_at ct_string_at), sl_string_at⟩)
    (c_string_at : PySem.W.codeIn K cd_string_at "string_at" = true) (k_string_at : PySem.W.keepIn K (.ref f_string_at) = true)
    {f_read_claim : Addr} {od_read_claim an_read_claim : Option Addr} {sl_read_claim : Array (Option Value)} {oc_read_claim kV_read_claim dc_read_claim pm_read_claim cd_read_claim ct_read_claim : Value}
    (a_read_claim : PySem.W.nsIn K mainGlobals "read_claim" = some (some (.ref f_read_claim)))
    (l_read_claim : K.lookup f_read_claim = some ⟨oc_read_claim, od_read_claim, .func (PySem.W.fnOf "read_claim" "read_claim" (defArgs s_read_claim) (defBody s_read_claim) (defScope s_read_claim) .none kV_read_claim dc_read_claim pm_read_claim an_read_claim cd_read_claim ct_read_claim), sl_read_claim⟩)
    (c_read_claim : PySem.W.codeIn K cd_read_claim "read_claim" = true) (k_read_claim : PySem.W.keepIn K (.ref f_read_claim) = true)
    {f_is_written : Addr} {od_is_written an_is_written : Option Addr} {sl_is_written : Array (Option Value)} {oc_is_written kV_is_written dc_is_written pm_is_written cd_is_written ct_is_written : Value}
    (a_is_written : PySem.W.nsIn K mainGlobals "is_written" = some (some (.ref f_is_written)))
    (l_is_written : K.lookup f_is_written = some ⟨oc_is_written, od_is_written, .func (PySem.W.fnOf "is_written" "is_written" (defArgs s_is_written) (defBody s_is_written) (defScope s_is_written) .none kV_is_written dc_is_written pm_is_written an_is_written cd_is_written ct_is_written), sl_is_written⟩)
    (c_is_written : PySem.W.codeIn K cd_is_written "is_written" = true) (k_is_written : PySem.W.keepIn K (.ref f_is_written) = true)
    {f_law_start : Addr} {od_law_start an_law_start : Option Addr} {sl_law_start : Array (Option Value)} {oc_law_start kV_law_start dc_law_start pm_law_start cd_law_start ct_law_start : Value}
    (a_law_start : PySem.W.nsIn K mainGlobals "_law_start" = some (some (.ref f_law_start)))
    (l_law_start : K.lookup f_law_start = some ⟨oc_law_start, od_law_start, .func (PySem.W.fnOf "_law_start" "_law_start" (defArgs s_law_start) (defBody s_law_start) (defScope s_law_start) .none kV_law_start dc_law_start pm_law_start an_law_start cd_law_start ct_law_start), sl_law_start⟩)
    (c_law_start : PySem.W.codeIn K cd_law_start "_law_start" = true) (k_law_start : PySem.W.keepIn K (.ref f_law_start) = true)
    {f_law_fill : Addr} {od_law_fill an_law_fill : Option Addr} {sl_law_fill : Array (Option Value)} {oc_law_fill kV_law_fill dc_law_fill pm_law_fill cd_law_fill ct_law_fill : Value}
    (a_law_fill : PySem.W.nsIn K mainGlobals "_law_fill" = some (some (.ref f_law_fill)))
    (l_law_fill : K.lookup f_law_fill = some ⟨oc_law_fill, od_law_fill, .func (PySem.W.fnOf "_law_fill" "_law_fill" (defArgs s_law_fill) (defBody s_law_fill) (defScope s_law_fill) .none kV_law_fill dc_law_fill pm_law_fill an_law_fill cd_law_fill ct_law_fill), sl_law_fill⟩)
    (c_law_fill : PySem.W.codeIn K cd_law_fill "_law_fill" = true) (k_law_fill : PySem.W.keepIn K (.ref f_law_fill) = true)
    {f_law_take : Addr} {od_law_take an_law_take : Option Addr} {sl_law_take : Array (Option Value)} {oc_law_take kV_law_take dc_law_take pm_law_take cd_law_take ct_law_take : Value}
    (a_law_take : PySem.W.nsIn K mainGlobals "_law_take" = some (some (.ref f_law_take)))
    (l_law_take : K.lookup f_law_take = some ⟨oc_law_take, od_law_take, .func (PySem.W.fnOf "_law_take" "_law_take" (defArgs s_law_take) (defBody s_law_take) (defScope s_law_take) .none kV_law_take dc_law_take pm_law_take an_law_take cd_law_take ct_law_take), sl_law_take⟩)
    (c_law_take : PySem.W.codeIn K cd_law_take "_law_take" = true) (k_law_take : PySem.W.keepIn K (.ref f_law_take) = true)
    {f_law_value : Addr} {od_law_value an_law_value : Option Addr} {sl_law_value : Array (Option Value)} {oc_law_value kV_law_value dc_law_value pm_law_value cd_law_value ct_law_value : Value}
    (a_law_value : PySem.W.nsIn K mainGlobals "_law_value" = some (some (.ref f_law_value)))
    (l_law_value : K.lookup f_law_value = some ⟨oc_law_value, od_law_value, .func (PySem.W.fnOf "_law_value" "_law_value" (defArgs s_law_value) (defBody s_law_value) (defScope s_law_value) .none kV_law_value dc_law_value pm_law_value an_law_value cd_law_value ct_law_value), sl_law_value⟩)
    (c_law_value : PySem.W.codeIn K cd_law_value "_law_value" = true) (k_law_value : PySem.W.keepIn K (.ref f_law_value) = true)
    {f_law_written : Addr} {od_law_written an_law_written : Option Addr} {sl_law_written : Array (Option Value)} {oc_law_written kV_law_written dc_law_written pm_law_written cd_law_written ct_law_written : Value}
    (a_law_written : PySem.W.nsIn K mainGlobals "_law_written" = some (some (.ref f_law_written)))
    (l_law_written : K.lookup f_law_written = some ⟨oc_law_written, od_law_written, .func (PySem.W.fnOf "_law_written" "_law_written" (defArgs s_law_written) (defBody s_law_written) (defScope s_law_written) .none kV_law_written dc_law_written pm_law_written an_law_written cd_law_written ct_law_written), sl_law_written⟩)
    (c_law_written : PySem.W.codeIn K cd_law_written "_law_written" = true) (k_law_written : PySem.W.keepIn K (.ref f_law_written) = true)
    {f_law_word_of : Addr} {od_law_word_of an_law_word_of : Option Addr} {sl_law_word_of : Array (Option Value)} {oc_law_word_of kV_law_word_of dc_law_word_of pm_law_word_of cd_law_word_of ct_law_word_of : Value}
    (a_law_word_of : PySem.W.nsIn K mainGlobals "_law_word_of" = some (some (.ref f_law_word_of)))
    (l_law_word_of : K.lookup f_law_word_of = some ⟨oc_law_word_of, od_law_word_of, .func (PySem.W.fnOf "_law_word_of" "_law_word_of" (defArgs s_law_word_of) (defBody s_law_word_of) (defScope s_law_word_of) .none kV_law_word_of dc_law_word_of pm_law_word_of an_law_word_of cd_law_word_of ct_law_word_of), sl_law_word_of⟩)
    (c_law_word_of : PySem.W.codeIn K cd_law_word_of "_law_word_of" = true) (k_law_word_of : PySem.W.keepIn K (.ref f_law_word_of) = true)
    {f_law_tuple_of : Addr} {od_law_tuple_of an_law_tuple_of : Option Addr} {sl_law_tuple_of : Array (Option Value)} {oc_law_tuple_of kV_law_tuple_of dc_law_tuple_of pm_law_tuple_of cd_law_tuple_of ct_law_tuple_of : Value}
    (a_law_tuple_of : PySem.W.nsIn K mainGlobals "_law_tuple_of" = some (some (.ref f_law_tuple_of)))
    (l_law_tuple_of : K.lookup f_law_tuple_of = some ⟨oc_law_tuple_of, od_law_tuple_of, .func (PySem.W.fnOf "_law_tuple_of" "_law_tuple_of" (defArgs s_law_tuple_of) (defBody s_law_tuple_of) (defScope s_law_tuple_of) .none kV_law_tuple_of dc_law_tuple_of pm_law_tuple_of an_law_tuple_of cd_law_tuple_of ct_law_tuple_of), sl_law_tuple_of⟩)
    (c_law_tuple_of : PySem.W.codeIn K cd_law_tuple_of "_law_tuple_of" = true) (k_law_tuple_of : PySem.W.keepIn K (.ref f_law_tuple_of) = true)
    {f_law_read : Addr} {od_law_read an_law_read : Option Addr} {sl_law_read : Array (Option Value)} {oc_law_read kV_law_read dc_law_read pm_law_read cd_law_read ct_law_read : Value}
    (a_law_read : PySem.W.nsIn K mainGlobals "_law_read" = some (some (.ref f_law_read)))
    (l_law_read : K.lookup f_law_read = some ⟨oc_law_read, od_law_read, .func (PySem.W.fnOf "_law_read" "_law_read" (defArgs s_law_read) (defBody s_law_read) (defScope s_law_read) .none kV_law_read dc_law_read pm_law_read an_law_read cd_law_read ct_law_read), sl_law_read⟩)
    (c_law_read : PySem.W.codeIn K cd_law_read "_law_read" = true) (k_law_read : PySem.W.keepIn K (.ref f_law_read) = true)
    {f_law_same : Addr} {od_law_same an_law_same : Option Addr} {sl_law_same : Array (Option Value)} {oc_law_same kV_law_same dc_law_same pm_law_same cd_law_same ct_law_same : Value}
    (a_law_same : PySem.W.nsIn K mainGlobals "_law_same" = some (some (.ref f_law_same)))
    (l_law_same : K.lookup f_law_same = some ⟨oc_law_same, od_law_same, .func (PySem.W.fnOf "_law_same" "_law_same" (defArgs s_law_same) (defBody s_law_same) (defScope s_law_same) .none kV_law_same dc_law_same pm_law_same an_law_same cd_law_same ct_law_same), sl_law_same⟩)
    (c_law_same : PySem.W.codeIn K cd_law_same "_law_same" = true) (k_law_same : PySem.W.keepIn K (.ref f_law_same) = true)
    {f_law_changed : Addr} {od_law_changed an_law_changed : Option Addr} {sl_law_changed : Array (Option Value)} {oc_law_changed kV_law_changed dc_law_changed pm_law_changed cd_law_changed ct_law_changed : Value}
    (a_law_changed : PySem.W.nsIn K mainGlobals "_law_changed" = some (some (.ref f_law_changed)))
    (l_law_changed : K.lookup f_law_changed = some ⟨oc_law_changed, od_law_changed, .func (PySem.W.fnOf "_law_changed" "_law_changed" (defArgs s_law_changed) (defBody s_law_changed) (defScope s_law_changed) .none kV_law_changed dc_law_changed pm_law_changed an_law_changed cd_law_changed ct_law_changed), sl_law_changed⟩)
    (c_law_changed : PySem.W.codeIn K cd_law_changed "_law_changed" = true) (k_law_changed : PySem.W.keepIn K (.ref f_law_changed) = true)
    {f_law : Addr} {od_law an_law : Option Addr} {sl_law : Array (Option Value)} {oc_law kV_law dc_law pm_law cd_law ct_law : Value}
    (a_law : PySem.W.nsIn K mainGlobals "law" = some (some (.ref f_law)))
    (l_law : K.lookup f_law = some ⟨oc_law, od_law, .func (PySem.W.fnOf "law" "law" (defArgs s_law) (defBody s_law) (defScope s_law) .none kV_law dc_law pm_law an_law cd_law ct_law), sl_law⟩)
    (c_law : PySem.W.codeIn K cd_law "law" = true) (k_law : PySem.W.keepIn K (.ref f_law) = true)
    {tk_PIECE : Tok} (g_PIECE : PySem.W.nsIn K mainGlobals "PIECE" = some (some (.int 1024 tk_PIECE)))
    {tk_MOST_DIGITS : Tok} (g_MOST_DIGITS : PySem.W.nsIn K mainGlobals "MOST_DIGITS" = some (some (.int 100000 tk_MOST_DIGITS)))
    {tk_DIGITS : Tok} (g_DIGITS : PySem.W.nsIn K mainGlobals "DIGITS" = some (some (.str (Str.ofString "0123456789") tk_DIGITS)))
    {tk_LETTERS : Tok} (g_LETTERS : PySem.W.nsIn K mainGlobals "LETTERS" = some (some (.str (Str.ofString "abcdefghijklmnopqrstuvwxyzABCDEFGHIJKLMNOPQRSTUVWXYZ ") tk_LETTERS)))
    (y_len : PySem.W.nsIn K mainGlobals "len" = some none)
    (y_int : PySem.W.nsIn K mainGlobals "int" = some none)
    (y_range : PySem.W.nsIn K mainGlobals "range" = some none)
    (y_tuple : PySem.W.nsIn K mainGlobals "tuple" = some none)
    (y_str : PySem.W.nsIn K mainGlobals "str" = some none)
    (y_isinstance : PySem.W.nsIn K mainGlobals "isinstance" = some none)
    (y_bool : PySem.W.nsIn K mainGlobals "bool" = some none)
    (y_all : PySem.W.nsIn K mainGlobals "all" = some none)
    {C fI N_C : Addr} {nm_C q_C : Str} {bs_C bm_C : List Value} {sn_C : List Str} {sub_C : List Value} {ab_C : Bool} {col_C : Option Bool} {dd_C : Option Addr} {m0 m1 m2 m3 m5 : Option Value}
    {oI : Value} {odI anI cddI cldI : Option Addr} {docI pmI ctI ccl_I cl_I : Value} {cda_I cc_I : Addr} {osl_I ccs_I csl_I : Array (Option Value)} {vs_I : Array Value} {file_I : Str} {tf_I : Tok}
    (aC : PySem.W.nsIn K mainGlobals "TextError" = some (some (.ref C)))
    (xC : K.lookup C = some (excClassObj nm_C q_C C N_C bs_C bm_C true sn_C sub_C ab_C col_C dd_C m0 m1 m2 m3 m5 "ValueError.__new__")) (rC : PySem.HandSPX.refsVE bm_C = true)
    (sa : PySem.W.findIn K (.ref C) "__setattr__" = some (some (.builtin "object.__setattr__"))) (ga : PySem.W.findIn K (.ref C) "__getattribute__" = some (some (.builtin "BaseException.__getattribute__"))) (gg : PySem.W.findIn K (.ref C) "__getattr__" = some none) (nb : PySem.W.findIn K (.ref C) "line" = some none)
    (aI : PySem.W.findIn K (.ref C) "__init__" = some (some (.ref fI))) (tI : PySem.W.typeIn K (.ref fI) = some (.type "function"))
    (kC : PySem.W.keepIn K (.ref C) = true) (eC : PySem.W.subIn K (.ref C) (.type "BaseException") = some true) (vC : PySem.W.subIn K (.ref C) (.type "ValueError") = some true) (tC : PySem.W.typeIn K (.ref C) = some (.type "type")) (hC : PySem.W.hasDictIn K C = true)
    (iC : PySem.W.exmOne K (.ref C) (.ref C) = some true) (uC : PySem.W.ks_superIn K C C "__init__" = some (some (.builtin "ValueError.__init__"))) (tp : PySem.W.nsIn K PySem.cStatics "thirdparty.any" = some none) (sC : PySem.W.nsIn K mainGlobals "super" = some none)
    (top : (P.main.scope.names.lookup ("super" : Str)).isSome = false)
    (lI : K.lookup fI = some ⟨oI, odI, .func (PySem.TeX.teFn docI pmI anI cda_I ctI cc_I), osl_I⟩) (cI : PySem.W.codeIn K (.ref cda_I) "TextError.__init__" = true)
    (cellI : K.lookup cc_I = some ⟨cl_I, cldI, .cell (some (.ref C)), csl_I⟩) (codI : K.lookup cda_I = some ⟨ccl_I, cddI, .fields vs_I, ccs_I⟩) (vsI : vs_I[2]? = some (.str file_I tf_I)) (flI : ((P.main.file : Str) == file_I) = true)
    {C0 C1 C2 C3 : Addr} (b0 : PySem.W.nsIn K mainGlobals "FacetloreError" = some (some (.ref C0))) (b1 : PySem.W.nsIn K mainGlobals "DomainError" = some (some (.ref C1))) (b2 : PySem.W.nsIn K mainGlobals "ShapeError" = some (some (.ref C2))) (b3 : PySem.W.nsIn K mainGlobals "SingularError" = some (some (.ref C3)))
    (b4 : PySem.W.exmOne K (.ref C) (.ref C0) = some true) (b5 : PySem.W.kitOne K (.ref C) (.ref C) = some true) (b6 : PySem.W.kitOne K (.ref C) (.ref C1) = some false) (b7 : PySem.W.kitOne K (.ref C) (.ref C2) = some false) (b8 : PySem.W.kitOne K (.ref C) (.ref C3) = some false)
    (i1 : (PySem.W.clsIn K C).isSome = true) (i5 : PySem.W.findIn K (.ref C) "__class__" = some (some (.builtin "object.__class__"))) (i6 : PySem.W.specialIn K (.builtin "object.__class__") "__get__" = some (some (.builtin "getset_descriptor.__get__"))) (i7 : PySem.W.takesIn K (.builtin "object.__class__") = some true) (i8 : PySem.W.mroIn K C (.type "object") = some true)
    : ∃ fd : FuncData, (∀ (s : Shared) (u : Value), BindsTo s fd ⟨[u], []⟩ [("script", u)]) ∧ ∀ base : Heap, K.In base → base.Ns mainGlobals mg → FnOk P w K mg base CX0 62 fa fd ["script"] (spLaw K) := by
  obtain rfl : f_law = fa := by
    have e := (PySem.W.mg_of X G a_law).symm.trans hfa
    injection e with e
    injection e
  have F_piece_base := fun_mk (st := s_piece_base) l_piece_base c_piece_base k_piece_base
  have D_piece_base : DefAt K mg "piece_base" s_piece_base [] f_piece_base _ := ⟨F_piece_base, PySem.W.mg_of X G a_piece_base, F_piece_base.binds (ps := []) fun _ _ _ _ _ _ us hl => match us, hl with | [], _ => rfl⟩
  have F_write_integer := fun_mk (st := s_write_integer) l_write_integer c_write_integer k_write_integer
  have D_write_integer : DefAt K mg "write_integer" s_write_integer ["n"] f_write_integer _ := ⟨F_write_integer, PySem.W.mg_of X G a_write_integer, F_write_integer.binds (ps := ["n"]) fun _ _ _ _ _ _ us hl => match us, hl with | [_], _ => rfl⟩
  have F_fail := fun_mk (st := s_fail) l_fail c_fail k_fail
  have D_fail : DefAt K mg "fail" s_fail [] f_fail _ := ⟨F_fail, PySem.W.mg_of X G a_fail, F_fail.binds (ps := []) fun _ _ _ _ _ _ us hl => match us, hl with | [], _ => rfl⟩
  have F_read_natural := fun_mk (st := s_read_natural) l_read_natural c_read_natural k_read_natural
  have D_read_natural : DefAt K mg "read_natural" s_read_natural ["text"] f_read_natural _ := ⟨F_read_natural, PySem.W.mg_of X G a_read_natural, F_read_natural.binds (ps := ["text"]) fun _ _ _ _ _ _ us hl => match us, hl with | [_], _ => rfl⟩
  have F_read_integer := fun_mk (st := s_read_integer) l_read_integer c_read_integer k_read_integer
  have D_read_integer : DefAt K mg "read_integer" s_read_integer ["text"] f_read_integer _ := ⟨F_read_integer, PySem.W.mg_of X G a_read_integer, F_read_integer.binds (ps := ["text"]) fun _ _ _ _ _ _ us hl => match us, hl with | [_], _ => rfl⟩
  have F_word_of := fun_mk (st := s_word_of) l_word_of c_word_of k_word_of
  have D_word_of : DefAt K mg "word_of" s_word_of ["value"] f_word_of _ := ⟨F_word_of, PySem.W.mg_of X G a_word_of, F_word_of.binds (ps := ["value"]) fun _ _ _ _ _ _ us hl => match us, hl with | [_], _ => rfl⟩
  have F_write_claim := fun_mk (st := s_write_claim) l_write_claim c_write_claim k_write_claim
  have D_write_claim : DefAt K mg "write_claim" s_write_claim ["claim"] f_write_claim _ := ⟨F_write_claim, PySem.W.mg_of X G a_write_claim, F_write_claim.binds (ps := ["claim"]) fun _ _ _ _ _ _ us hl => match us, hl with | [_], _ => rfl⟩
  have F_read_word := fun_mk (st := s_read_word) l_read_word c_read_word k_read_word
  have D_read_word : DefAt K mg "read_word" s_read_word ["word"] f_read_word _ := ⟨F_read_word, PySem.W.mg_of X G a_read_word, F_read_word.binds (ps := ["word"]) fun _ _ _ _ _ _ us hl => match us, hl with | [_], _ => rfl⟩
  have F_word_end := fun_mk (st := s_word_end) l_word_end c_word_end k_word_end
  have D_word_end : DefAt K mg "word_end" s_word_end ["text", "at"] f_word_end _ := ⟨F_word_end, PySem.W.mg_of X G a_word_end, F_word_end.binds (ps := ["text", "at"]) fun _ _ _ _ _ _ us hl => match us, hl with | [_, _], _ => rfl⟩
  have F_string_at := fun_mk (st := s_string_at) l_string_at c_string_at k_string_at
  have D_string_at : DefAt K mg "string_at" s_string_at ["text", "at"] f_string_at _ := ⟨F_string_at, PySem.W.mg_of X G a_string_at, F_string_at.binds (ps := ["text", "at"]) fun _ _ _ _ _ _ us hl => match us, hl with | [_, _], _ => rfl⟩
  have F_read_claim := fun_mk (st := s_read_claim) l_read_claim c_read_claim k_read_claim
  have D_read_claim : DefAt K mg "read_claim" s_read_claim ["text"] f_read_claim _ := ⟨F_read_claim, PySem.W.mg_of X G a_read_claim, F_read_claim.binds (ps := ["text"]) fun _ _ _ _ _ _ us hl => match us, hl with | [_], _ => rfl⟩
  have F_is_written := fun_mk (st := s_is_written) l_is_written c_is_written k_is_written
  have D_is_written : DefAt K mg "is_written" s_is_written ["claim", "text"] f_is_written _ := ⟨F_is_written, PySem.W.mg_of X G a_is_written, F_is_written.binds (ps := ["claim", "text"]) fun _ _ _ _ _ _ us hl => match us, hl with | [_, _], _ => rfl⟩
  have F_law_start := fun_mk (st := s_law_start) l_law_start c_law_start k_law_start
  have D_law_start : DefAt K mg "_law_start" s_law_start ["script"] f_law_start _ := ⟨F_law_start, PySem.W.mg_of X G a_law_start, F_law_start.binds (ps := ["script"]) fun _ _ _ _ _ _ us hl => match us, hl with | [_], _ => rfl⟩
  have F_law_fill := fun_mk (st := s_law_fill) l_law_fill c_law_fill k_law_fill
  have D_law_fill : DefAt K mg "_law_fill" s_law_fill ["c"] f_law_fill _ := ⟨F_law_fill, PySem.W.mg_of X G a_law_fill, F_law_fill.binds (ps := ["c"]) fun _ _ _ _ _ _ us hl => match us, hl with | [_], _ => rfl⟩
  have F_law_take := fun_mk (st := s_law_take) l_law_take c_law_take k_law_take
  have D_law_take : DefAt K mg "_law_take" s_law_take ["c", "many"] f_law_take _ := ⟨F_law_take, PySem.W.mg_of X G a_law_take, F_law_take.binds (ps := ["c", "many"]) fun _ _ _ _ _ _ us hl => match us, hl with | [_, _], _ => rfl⟩
  have F_law_value := fun_mk (st := s_law_value) l_law_value c_law_value k_law_value
  have D_law_value : DefAt K mg "_law_value" s_law_value ["c", "depth"] f_law_value _ := ⟨F_law_value, PySem.W.mg_of X G a_law_value, F_law_value.binds (ps := ["c", "depth"]) fun _ _ _ _ _ _ us hl => match us, hl with | [_, _], _ => rfl⟩
  have F_law_written := fun_mk (st := s_law_written) l_law_written c_law_written k_law_written
  have D_law_written : DefAt K mg "_law_written" s_law_written ["value"] f_law_written _ := ⟨F_law_written, PySem.W.mg_of X G a_law_written, F_law_written.binds (ps := ["value"]) fun _ _ _ _ _ _ us hl => match us, hl with | [_], _ => rfl⟩
  have F_law_word_of := fun_mk (st := s_law_word_of) l_law_word_of c_law_word_of k_law_word_of
  have D_law_word_of : DefAt K mg "_law_word_of" s_law_word_of ["word"] f_law_word_of _ := ⟨F_law_word_of, PySem.W.mg_of X G a_law_word_of, F_law_word_of.binds (ps := ["word"]) fun _ _ _ _ _ _ us hl => match us, hl with | [_], _ => rfl⟩
  have F_law_tuple_of := fun_mk (st := s_law_tuple_of) l_law_tuple_of c_law_tuple_of k_law_tuple_of
  have D_law_tuple_of : DefAt K mg "_law_tuple_of" s_law_tuple_of ["text"] f_law_tuple_of _ := ⟨F_law_tuple_of, PySem.W.mg_of X G a_law_tuple_of, F_law_tuple_of.binds (ps := ["text"]) fun _ _ _ _ _ _ us hl => match us, hl with | [_], _ => rfl⟩
  have F_law_read := fun_mk (st := s_law_read) l_law_read c_law_read k_law_read
  have D_law_read : DefAt K mg "_law_read" s_law_read ["text"] f_law_read _ := ⟨F_law_read, PySem.W.mg_of X G a_law_read, F_law_read.binds (ps := ["text"]) fun _ _ _ _ _ _ us hl => match us, hl with | [_], _ => rfl⟩
  have F_law_same := fun_mk (st := s_law_same) l_law_same c_law_same k_law_same
  have D_law_same : DefAt K mg "_law_same" s_law_same ["one", "two"] f_law_same _ := ⟨F_law_same, PySem.W.mg_of X G a_law_same, F_law_same.binds (ps := ["one", "two"]) fun _ _ _ _ _ _ us hl => match us, hl with | [_, _], _ => rfl⟩
  have F_law_changed := fun_mk (st := s_law_changed) l_law_changed c_law_changed k_law_changed
  have D_law_changed : DefAt K mg "_law_changed" s_law_changed ["c", "text"] f_law_changed _ := ⟨F_law_changed, PySem.W.mg_of X G a_law_changed, F_law_changed.binds (ps := ["c", "text"]) fun _ _ _ _ _ _ us hl => match us, hl with | [_, _], _ => rfl⟩
  have F_law := fun_mk (st := s_law) l_law c_law k_law
  have D_law : DefAt K mg "law" s_law ["script"] f_law _ := ⟨F_law, PySem.W.mg_of X G a_law, F_law.binds (ps := ["script"]) fun _ _ _ _ _ _ us hl => match us, hl with | [_], _ => rfl⟩
  have c_PIECE := PySem.W.mg_of X G g_PIECE
  have c_MOST_DIGITS := PySem.W.mg_of X G g_MOST_DIGITS
  have c_DIGITS := PySem.W.mg_of X G g_DIGITS
  have c_LETTERS := PySem.W.mg_of X G g_LETTERS
  have z_len := PySem.W.mg_none_of X G y_len
  have z_int := PySem.W.mg_none_of X G y_int
  have z_range := PySem.W.mg_none_of X G y_range
  have z_tuple := PySem.W.mg_none_of X G y_tuple
  have z_str := PySem.W.mg_none_of X G y_str
  have z_isinstance := PySem.W.mg_none_of X G y_isinstance
  have z_bool := PySem.W.mg_none_of X G y_bool
  have z_all := PySem.W.mg_none_of X G y_all
  have TX : PySem.TeX.TeTxt P K mg C fI := { gC := PySem.W.mg_of X G aC, cls := ⟨nm_C, q_C, N_C, bs_C, bm_C, sn_C, sub_C, ab_C, col_C, dd_C, m0, m1, m2, m3, m5, xC, rC⟩, sa := sa, ga := ga, gg := gg, noN := nb, iC := aI, tC := tI, kC := kC, exC := eC, veC := vC, tyC := tC, hdC := hC, te := iC, sup := uC, tp := tp, noS := sC, top := top, fn := ⟨_, _, _, _, _, _, _, _, _, _, _, _, _, _, _, _, _, _, lI, cI, cellI, codI, vsI, flI⟩ }
  have EX : ErrC K mg C C0 C1 C2 C3 := ⟨PySem.W.mg_of X G b0, PySem.W.mg_of X G b1, PySem.W.mg_of X G b2, PySem.W.mg_of X G b3, b4, b5, b6, b7, b8, ⟨i1, ga, gg, eC, i5, i6, i7, i8⟩⟩
  refine ⟨PySem.W.fnOf "law" "law" (defArgs s_law) (defBody s_law) (defScope s_law) .none kV_law dc_law pm_law an_law cd_law ct_law, fun s u => .of_eq rfl, fun base _ _ => ?_⟩
  have G_piece_base := ok_piece_base (P := P) (w := w) (base := base) D_piece_base z_range
  have G_write_integer := ok_write_integer D_write_integer D_piece_base c_PIECE z_str G_piece_base
  have G_fail := ok_fail (w := w) (base := base) D_fail TX
  have G_read_natural := ok_read_natural D_read_natural D_fail D_piece_base c_PIECE c_MOST_DIGITS c_DIGITS z_len z_int G_piece_base G_fail
  have G_read_integer := ok_read_integer D_read_integer D_read_natural D_fail G_read_natural G_fail
  have G_read_word := ok_read_word D_read_word D_read_integer G_read_integer
  have G_word_end := ok_word_end (P := P) (w := w) (base := base) D_word_end z_len
  have G_string_at := ok_string_at D_string_at D_fail c_LETTERS z_len G_fail
  have G_word_of := ok_word_of D_word_of D_write_integer z_isinstance z_str G_write_integer
  have G_write_claim := ok_write_claim D_write_claim D_word_of z_isinstance z_tuple z_len z_range G_word_of
  have G_is_written := ok_is_written D_is_written D_write_claim z_isinstance z_tuple G_write_claim
  have G_read_claim := ok_read_claim D_read_claim D_is_written D_read_word D_string_at D_word_end D_fail z_len z_tuple G_is_written G_read_word G_string_at G_word_end G_fail
  have G_law_read := ok_law_read D_law_read D_read_claim TX EX z_isinstance z_int G_read_claim
  have G_law_start := ok_law_start (P := P) (w := w) (base := base) D_law_start z_int
  have G_law_take := ok_law_take (P := P) (w := w) (base := base) D_law_take D_law_fill z_len z_int
  have G_law_value := ok_law_value D_law_value D_law_take G_law_take z_range z_tuple 5
  have G_law_written := ok_law_written (P := P) (w := w) (base := base) D_law_written z_isinstance z_str z_tuple 8
  have G_law_word_of := ok_law_word_of (P := P) (w := w) (base := base) D_law_word_of z_int
  have G_law_tuple_of := ok_law_tuple_of D_law_tuple_of D_law_word_of z_len z_tuple z_isinstance G_law_word_of
  have G_law_same := ok_law_same (P := P) (w := w) (base := base) D_law_same z_isinstance z_tuple z_bool z_len z_all z_range 61
  have G_law_changed := ok_law_changed D_law_changed D_law_take z_len z_int z_range G_law_take
  exact ok_law D_law D_law_start D_law_take D_law_value D_law_written D_law_changed D_law_read D_law_tuple_of D_law_same z_tuple z_range G_law_start G_law_take G_law_value G_law_written G_law_changed G_law_read G_law_tuple_of G_law_same
end FL
open PySem PySem.W PyProof.Rows
set_option maxHeartbeats 0 in
theorem PySem.Challenge.cw_facetlore_k83_claims_told_from_wrong_tex_holds : PySem.Challenge.rw_facetlore_k83_claims_told_from_wrong_tex.Holds := by
  w_on; o_law; k_head; (case hw => w_witness2)
  k_fill
  refine L2.walk_of (l := PySem.Challenge.rw_facetlore_k83_claims_told_from_wrong_tex) (n := 63) (k := 62) (x := "script") (CX := fun _ => L2.CX0) (sp := fun w => FL.spLaw _) rfl (by decide) rfl ⟨rfl, by decide, by decide⟩ (fun w h Y => PySem.W.kIn_of Y) ?F (fun _ _ a ns hl _ hS => ⟨a, ns, rfl, hS, hl, fun _ => rfl⟩) (fun _ _ _ _ _ h => h)
  case F =>
    intro w mg fa h KX G hmg
    refine' FL.all_mk KX G hmg ?a_piece_base ?l_piece_base ?c_piece_base ?k_piece_base ?a_write_integer ?l_write_integer ?c_write_integer ?k_write_integer ?a_fail ?l_fail ?c_fail ?k_fail ?a_read_natural ?l_read_natural ?c_read_natural ?k_read_natural ?a_read_integer ?l_read_integer ?c_read_integer ?k_read_integer ?a_word_of ?l_word_of ?c_word_of ?k_word_of ?a_write_claim ?l_write_claim ?c_write_claim ?k_write_claim ?a_read_word ?l_read_word ?c_read_word ?k_read_word ?a_word_end ?l_word_end ?c_word_end ?k_word_end ?a_string_at ?l_string_at ?c_string_at ?k_string_at ?a_read_claim ?l_read_claim ?c_read_claim ?k_read_claim ?a_is_written ?l_is_written ?c_is_written ?k_is_written ?a_law_start ?l_law_start ?c_law_start ?k_law_start ?a_law_fill ?l_law_fill ?c_law_fill ?k_law_fill ?a_law_take ?l_law_take ?c_law_take ?k_law_take ?a_law_value ?l_law_value ?c_law_value ?k_law_value ?a_law_written ?l_law_written ?c_law_written ?k_law_written ?a_law_word_of ?l_law_word_of ?c_law_word_of ?k_law_word_of ?a_law_tuple_of ?l_law_tuple_of ?c_law_tuple_of ?k_law_tuple_of ?a_law_read ?l_law_read ?c_law_read ?k_law_read ?a_law_same ?l_law_same ?c_law_same ?k_law_same ?a_law_changed ?l_law_changed ?c_law_changed ?k_law_changed ?a_law ?l_law ?c_law ?k_law ?g_PIECE ?g_MOST_DIGITS ?g_DIGITS ?g_LETTERS ?y_len ?y_int ?y_range ?y_tuple ?y_str ?y_isinstance ?y_bool ?y_all ?aC ?xC ?rC ?sa ?ga ?gg ?nb ?aI ?tI ?kC ?eC ?vC ?tC ?hC ?iC ?uC ?tp ?sC ?top ?lI ?cI ?cellI ?codI ?vsI ?flI ?b0 ?b1 ?b2 ?b3 ?b4 ?b5 ?b6 ?b7 ?b8 ?i1 ?i5 ?i6 ?i7 ?i8
    (case a_piece_base => k_is)
    (case l_piece_base => k_is)
    (case c_piece_base => k_is)
    (case k_piece_base => k_is)
    (case a_write_integer => k_is)
    (case l_write_integer => k_is)
    (case c_write_integer => k_is)
    (case k_write_integer => k_is)
    (case a_fail => k_is)
    (case l_fail => k_is)
    (case c_fail => k_is)
    (case k_fail => k_is)
    (case a_read_natural => k_is)
    (case l_read_natural => k_is)
    (case c_read_natural => k_is)
    (case k_read_natural => k_is)
    (case a_read_integer => k_is)
    (case l_read_integer => k_is)
    (case c_read_integer => k_is)
    (case k_read_integer => k_is)
    (case a_word_of => k_is)
    (case l_word_of => k_is)
    (case c_word_of => k_is)
    (case k_word_of => k_is)
    (case a_write_claim => k_is)
    (case l_write_claim => k_is)
    (case c_write_claim => k_is)
    (case k_write_claim => k_is)
    (case a_read_word => k_is)
    (case l_read_word => k_is)
    (case c_read_word => k_is)
    (case k_read_word => k_is)
    (case a_word_end => k_is)
    (case l_word_end => k_is)
    (case c_word_end => k_is)
    (case k_word_end => k_is)
    (case a_string_at => k_is)
    (case l_string_at => k_is)
    (case c_string_at => k_is)
    (case k_string_at => k_is)
    (case a_read_claim => k_is)
    (case l_read_claim => k_is)
    (case c_read_claim => k_is)
    (case k_read_claim => k_is)
    (case a_is_written => k_is)
    (case l_is_written => k_is)
    (case c_is_written => k_is)
    (case k_is_written => k_is)
    (case a_law_start => k_is)
    (case l_law_start => k_is)
    (case c_law_start => k_is)
    (case k_law_start => k_is)
    (case a_law_fill => k_is)
    (case l_law_fill => k_is)
    (case c_law_fill => k_is)
    (case k_law_fill => k_is)
    (case a_law_take => k_is)
    (case l_law_take => k_is)
    (case c_law_take => k_is)
    (case k_law_take => k_is)
    (case a_law_value => k_is)
    (case l_law_value => k_is)
    (case c_law_value => k_is)
    (case k_law_value => k_is)
    (case a_law_written => k_is)
    (case l_law_written => k_is)
    (case c_law_written => k_is)
    (case k_law_written => k_is)
    (case a_law_word_of => k_is)
    (case l_law_word_of => k_is)
    (case c_law_word_of => k_is)
    (case k_law_word_of => k_is)
    (case a_law_tuple_of => k_is)
    (case l_law_tuple_of => k_is)
    (case c_law_tuple_of => k_is)
    (case k_law_tuple_of => k_is)
    (case a_law_read => k_is)
    (case l_law_read => k_is)
    (case c_law_read => k_is)
    (case k_law_read => k_is)
    (case a_law_same => k_is)
    (case l_law_same => k_is)
    (case c_law_same => k_is)
    (case k_law_same => k_is)
    (case a_law_changed => k_is)
    (case l_law_changed => k_is)
    (case c_law_changed => k_is)
    (case k_law_changed => k_is)
    (case a_law => k_is)
    (case l_law => k_is)
    (case c_law => k_is)
    (case k_law => k_is)
    (case g_PIECE => k_is)
    (case g_MOST_DIGITS => k_is)
    (case g_DIGITS => k_is)
    (case g_LETTERS => k_is)
    (case y_len => k_is)
    (case y_int => k_is)
    (case y_range => k_is)
    (case y_tuple => k_is)
    (case y_str => k_is)
    (case y_isinstance => k_is)
    (case y_bool => k_is)
    (case y_all => k_is)
    (case aC => k_is)
    (case xC => k_is)
    (case rC => first | rfl | decide +kernel | k_is)
    (case sa => k_is)
    (case ga => k_is)
    (case gg => k_is)
    (case nb => k_is)
    (case aI => k_is)
    (case tI => k_is)
    (case kC => k_is)
    (case eC => k_is)
    (case vC => k_is)
    (case tC => k_is)
    (case hC => k_is)
    (case iC => first | rfl | k_is)
    (case uC => ks_is)
    (case tp => k_is)
    (case sC => k_is)
    (case top => first | rfl | decide +kernel)
    (case lI => k_is)
    (case cI => k_is)
    (case cellI => k_is)
    (case codI => k_is)
    (case vsI => rfl)
    (case flI => first | rfl | decide +kernel)
    (case b0 => k_is)
    (case b1 => k_is)
    (case b2 => k_is)
    (case b3 => k_is)
    (case b4 => first | k_is | rfl | decide +kernel)
    (case b5 => first | k_is | rfl | decide +kernel)
    (case b6 => first | k_is | rfl | decide +kernel)
    (case b7 => first | k_is | rfl | decide +kernel)
    (case b8 => first | k_is | rfl | decide +kernel)
    (case i1 => first | k_is | rfl | decide +kernel)
    (case i5 => k_is)
    (case i6 => k_is)
    (case i7 => k_is)
    (case i8 => k_is)

