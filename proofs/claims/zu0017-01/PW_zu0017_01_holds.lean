import PyProof.Rows.All
import Wide.All
import OpenK.AllK
import Wide.FinOn
import PySem.Challenge.RW_zu0017_01
set_option Elab.async false
set_option compiler.extract_closed false
set_option linter.all false
set_option genInjectivity false
namespace Mine
-- part P1n
/- the plain law -/
noncomputable def numM (J : Int) : Int := (J - 14).tdiv 12
noncomputable def numD (I J K : Int) : Int :=
  K - 32075 + (1461 * (I + 4800 + numM J)).tdiv 4 + (367 * (J - 2 - numM J * 12)).tdiv 12 - (3 * ((I + 4900 + numM J).tdiv 100)).tdiv 4
noncomputable def numW (D : Int) : Int := D + 1 - (D + 1).tdiv 7 * 7
theorem mon (J : Int) (h1 : 1 ≤ J) {n : Nat} (h2 : J ≤ n) : ∃ j : Nat, J = (j : Int) + 1 ∧ j < n := ⟨(J - 1).toNat, by lia, by lia⟩
theorem numM_all : ∀ j < 12, numM ((j : Nat) + 1 : Int) = if ((j : Nat) + 1 : Int) ≤ 2 then -1 else 0 := by decide +kernel
theorem sh {n : Int} (k q r : Int) (hn : n ≠ 0) : (n * k * q + r) / n = k * q + r / n := by
  rw [Int.mul_assoc, Int.add_comm, Int.add_mul_ediv_left _ _ hn, Int.add_comm]
theorem shm (n k q r : Int) : (n * k * q + r) % n = r % n := by
  rw [Int.mul_assoc, Int.add_comm, Int.add_mul_emod_self_left]
theorem numM_val (J : Int) (h1 : 1 ≤ J) (h2 : J ≤ 12) : numM J = if J ≤ 2 then -1 else 0 := by
  obtain ⟨j, e, hj⟩ := mon J h1 (n := 12) h2
  subst e
  exact numM_all j hj
theorem sub7 (x : Int) : x - x / 7 * 7 = x % 7 := by rw [Int.emod_def, Int.mul_comm 7]
theorem dnn {a b : Int} (h : 0 ≤ a) (hb : 0 ≤ b) : 0 ≤ a / b := Int.ediv_nonneg h hb
theorem tdiv_pos {a b : Int} (h : 0 ≤ a) : a.tdiv b = a / b := Int.tdiv_eq_ediv_of_nonneg h
theorem numD_val (I J K : Int) (hI : 1600 ≤ I) (h1 : 1 ≤ J) (h2 : J ≤ 12) : numD I J K =
    K - 32075 + (1461 * (I + 4800 + (if J ≤ 2 then -1 else 0))) / 4 + (367 * (J - 2 - (if J ≤ 2 then -1 else 0) * 12)) / 12 - (3 * ((I + 4900 + (if J ≤ 2 then -1 else 0)) / 100)) / 4 := by
  unfold numD
  rw [numM_val J h1 h2]
  split
  · rw [tdiv_pos (a := 1461 * _) (Int.mul_nonneg (by decide) (by lia)), tdiv_pos (a := 367 * _) (Int.mul_nonneg (by decide) (by lia)), tdiv_pos (a := I + 4900 + -1) (by lia), tdiv_pos (a := 3 * _) (Int.mul_nonneg (by decide) (dnn (by lia) (by decide)))]
  · rw [tdiv_pos (a := 1461 * _) (Int.mul_nonneg (by decide) (by lia)), tdiv_pos (a := 367 * _) (Int.mul_nonneg (by decide) (by lia)), tdiv_pos (a := I + 4900 + 0) (by lia), tdiv_pos (a := 3 * _) (Int.mul_nonneg (by decide) (dnn (by lia) (by decide)))]
/-- the day's number of a year below four hundred, without the day -/
noncomputable def g (r J : Int) : Int :=
  (1461 * (r + 4800 + (if J ≤ 2 then -1 else 0))) / 4 + (367 * (J - 2 - (if J ≤ 2 then -1 else 0) * 12)) / 12 - (3 * ((r + 4900 + (if J ≤ 2 then -1 else 0)) / 100)) / 4
theorem shift (q r a : Int) : (1461 * (400 * q + r + 4800 + a)) / 4 = 146100 * q + (1461 * (r + 4800 + a)) / 4 ∧ (3 * ((400 * q + r + 4900 + a) / 100)) / 4 = 3 * q + (3 * ((r + 4900 + a) / 100)) / 4 := by
  have e1 : 1461 * (400 * q + r + 4800 + a) = 4 * 146100 * q + 1461 * (r + 4800 + a) := by rw [Int.add_assoc, Int.add_assoc, Int.mul_add, ← Int.mul_assoc, Int.add_assoc]; rfl
  have e2 : 400 * q + r + 4900 + a = 100 * 4 * q + (r + 4900 + a) := by rw [Int.add_assoc, Int.add_assoc, Int.add_assoc]; rfl
  have e3 : 3 * (4 * q + (r + 4900 + a) / 100) = 4 * 3 * q + 3 * ((r + 4900 + a) / 100) := by rw [Int.mul_add, ← Int.mul_assoc]; rfl
  refine ⟨?_, ?_⟩
  · rw [e1, sh _ _ _ (by decide)]
  · rw [e2, sh _ _ _ (by decide), e3, sh _ _ _ (by decide)]
theorem numD_g (I q r J K : Int) (e : I = 400 * q + r) (hI : 1600 ≤ I) (h1 : 1 ≤ J) (h2 : J ≤ 12) : numD I J K = K - 32075 + 146097 * q + g r J := by
  rw [numD_val I J K hI h1 h2, e, (shift q r _).1, (shift q r _).2]
  unfold g
  generalize (1461 * (r + 4800 + (if J ≤ 2 then -1 else 0))) / 4 = x, (367 * (J - 2 - (if J ≤ 2 then -1 else 0) * 12)) / 12 = y, (3 * ((r + 4900 + (if J ≤ 2 then -1 else 0)) / 100)) / 4 = z
  clear e hI h1 h2
  lia
theorem part (I : Int) : ∃ (q : Int) (r : Nat), I = 400 * q + (r : Int) ∧ r < 400 := ⟨I / 400, (I % 400).toNat, by rw [Int.toNat_of_nonneg (Int.emod_nonneg _ (by decide))]; exact (Int.mul_ediv_add_emod I 400).symm, by lia⟩
noncomputable def leap (y : Int) : Bool := decide (y % 4 = 0) && (decide (y % 100 ≠ 0) || decide (y % 400 = 0))
theorem leap_shift (q r : Int) : leap (400 * q + r) = leap r := by
  unfold leap
  rw [show (400 * q + r) % 4 = r % 4 from shm 4 100 q r, show (400 * q + r) % 100 = r % 100 from shm 100 4 q r, show (400 * q + r) % 400 = r % 400 from (congrArg (· % 400) (by lia)).trans (shm 400 1 q r)]
theorem kadd (K x y z : Int) : K + 1 - 32075 + x + y - z = K - 32075 + x + y - z + 1 := by lia
theorem day_next (I J K : Int) (hI : 1600 ≤ I) (h1 : 1 ≤ J) (h2 : J ≤ 12) : numD I J (K + 1) = numD I J K + 1 := by
  rw [numD_val I J _ hI h1 h2, numD_val I J _ hI h1 h2]; exact kadd _ _ _ _
noncomputable def len (J : Int) (l : Bool) : Int := if J = 2 then (if l then 29 else 28) else if J = 4 ∨ J = 6 ∨ J = 9 ∨ J = 11 then 30 else 31
noncomputable def both (n m : Nat) (f : Nat → Nat → Bool) : Bool := (List.range n).all fun r => (List.range m).all fun j => f r j
theorem both_at {n m : Nat} {f : Nat → Nat → Bool} (h : both n m f = true) {r j : Nat} (hr : r < n) (hj : j < m) : f r j = true :=
  List.all_eq_true.mp (List.all_eq_true.mp h r (List.mem_range.mpr hr)) j (List.mem_range.mpr hj)
theorem month_all : both 400 11 (fun r j => decide (g r (j + 1 + 1) = g r (j + 1) + len (j + 1) (leap r))) = true := by decide +kernel
theorem year_all : both 400 1 (fun r _ => decide (g (r + 1) 1 = g r 12 + 31)) = true := by decide +kernel
theorem long_all : both 400 12 (fun r j => decide (g (r + 1) (j + 1) - g r (j + 1) = 365 + (if leap (if (j + 1 : Int) < 3 then (r : Int) else r + 1) then 1 else 0))) = true := by decide +kernel
theorem month_next (I J : Int) (hI : 1600 ≤ I) (h1 : 1 ≤ J) (h2 : J ≤ 11) : numD I (J + 1) 1 = numD I J (len J (leap I)) + 1 := by
  obtain ⟨q, r, e, hr⟩ := part I
  obtain ⟨j, ej, hj⟩ := mon J h1 (n := 11) h2
  have := of_decide_eq_true (both_at month_all hr hj)
  rw [numD_g I q r (J + 1) _ e hI (by lia) (by lia), numD_g I q r J _ e hI h1 (by lia), e, leap_shift, ej]
  lia
theorem year_next (I : Int) (hI : 1600 ≤ I) : numD (I + 1) 1 1 = numD I 12 31 + 1 := by
  obtain ⟨q, r, e, hr⟩ := part I
  have := of_decide_eq_true (both_at year_all hr (Nat.zero_lt_one))
  rw [numD_g (I + 1) q (r + 1) 1 _ (by lia) (by lia) (by lia) (by lia), numD_g I q r 12 _ e hI (by lia) (by lia)]
  lia
theorem year_len (I J : Int) (hI : 1600 ≤ I) (h1 : 1 ≤ J) (h2 : J ≤ 12) : numD (I + 1) J 1 - numD I J 1 = 365 + (if leap (if J < 3 then I else I + 1) then 1 else 0) := by
  obtain ⟨q, r, e, hr⟩ := part I
  obtain ⟨j, ej, hj⟩ := mon J h1 (n := 12) h2
  have := of_decide_eq_true (both_at long_all hr hj)
  rw [numD_g (I + 1) q (r + 1) J _ (by lia) (by lia) (by lia) (by lia), numD_g I q r J _ e hI h1 (by lia)]
  have hl : leap (if J < 3 then I else I + 1) = leap (if J < 3 then (r : Int) else r + 1) := by
    split
    · rw [e, leap_shift]
    · rw [e, Int.add_assoc, leap_shift]
  rw [hl, ej, ← this]
  lia
theorem d4 (q x : Int) : (400 * q + x) / 4 = 100 * q + x / 4 := sh (n := 4) 100 q x (by decide)
theorem d100 (q x : Int) : (400 * q + x) / 100 = 4 * q + x / 100 := sh (n := 100) 4 q x (by decide)
theorem d400 (q x : Int) : (400 * q + x) / 400 = q + x / 400 := by
  have := sh (n := 400) 1 q x (by decide)
  rw [Int.mul_one, Int.one_mul] at this
  exact this
noncomputable def weeS (I J K : Int) : Int := K + (13 * (J + 1)).tdiv 5 + I + I.tdiv 4 - I.tdiv 100 + I.tdiv 400
noncomputable def weeW (I J K : Int) : Int := weeS I J K - (weeS I J K).tdiv 7 * 7
theorem numW_val (D : Int) (h : 0 ≤ D) : numW D = (D + 1) % 7 := by
  unfold numW
  rw [tdiv_pos (Int.add_nonneg h (by decide)), sub7]
theorem numW_next (D : Int) (h : 0 ≤ D) : numW (D + 1) = (numW D + 1) % 7 := by
  rw [numW_val D h, numW_val (D + 1) (Int.add_nonneg h (by decide)), Int.emod_add_emod]
theorem g_all : both 400 12 (fun r j => decide (0 ≤ g r (j + 1))) = true := by decide +kernel
theorem numD_nonneg (I J K : Int) (hI : 1600 ≤ I) (h1 : 1 ≤ J) (h2 : J ≤ 12) (hK : 1 ≤ K) : 0 ≤ numD I J K := by
  obtain ⟨q, r, e, hr⟩ := part I
  obtain ⟨j, ej, hj⟩ := mon J h1 (n := 12) h2
  have := of_decide_eq_true (both_at g_all hr hj)
  rw [numD_g I q r J K e hI h1 h2, ej]
  have hq : 4 ≤ q := by lia
  generalize g r (j + 1) = y at *
  clear e ej hI h1 h2
  lia
theorem weeW_val (I J K : Int) (hI : 1599 ≤ I) (h1 : 1 ≤ J) (hK : 1 ≤ K) : weeW I J K = (K + (13 * (J + 1)) / 5 + I + I / 4 - I / 100 + I / 400) % 7 := by
  unfold weeW weeS
  rw [tdiv_pos (a := 13 * _) (by lia), tdiv_pos (a := I) (by lia), tdiv_pos (a := I) (by lia), tdiv_pos (a := I) (by lia), tdiv_pos, sub7]
  have a1 : 0 ≤ (13 * (J + 1)) / 5 := dnn (Int.mul_nonneg (by decide) (by lia)) (by decide)
  have a2 : 0 ≤ I / 4 := dnn (by lia) (by decide)
  have a3 : I / 100 ≤ I := Int.ediv_le_self _ (by lia)
  have a4 : 0 ≤ I / 400 := dnn (by lia) (by decide)
  generalize (13 * (J + 1)) / 5 = x, I / 4 = y, I / 100 = z, I / 400 = u at *
  clear h1 hI
  lia
/-- the weekday's sum of a year below four hundred, without the day -/
noncomputable def hw (r J : Int) : Int := if J ≤ 2 then (13 * (J + 12 + 1)) / 5 + (r - 1) + (r - 1) / 4 - (r - 1) / 100 + (r - 1) / 400 else (13 * (J + 1)) / 5 + r + r / 4 - r / 100 + r / 400
theorem week_all : both 400 12 (fun r j => decide ((hw r (j + 1) + 6 - (g r (j + 1) - 32074)) % 7 = 0)) = true := by decide +kernel
theorem add497 (K q a r x y z : Int) : K + a + (400 * q + r) + (100 * q + x) - (4 * q + y) + (q + z) = K + 497 * q + (a + r + x - y + z) := by lia
theorem same_day (I J K : Int) (hI : 1600 ≤ I) (h1 : 1 ≤ J) (h2 : J ≤ 12) (hK : 1 ≤ K) :
    ((if J ≤ 2 then weeW (I - 1) (J + 12) K else weeW I J K) + 6) % 7 = numW (numD I J K) := by
  obtain ⟨q, r, e, hr⟩ := part I
  obtain ⟨j, ej, hj⟩ := mon J h1 (n := 12) h2
  have hc := of_decide_eq_true (both_at week_all hr hj)
  rw [← ej] at hc
  have hS : (if J ≤ 2 then weeW (I - 1) (J + 12) K else weeW I J K) = (K + 497 * q + hw r J) % 7 := by
    unfold hw
    split
    · have e1 : I - 1 = 400 * q + ((r : Int) - 1) := by lia
      rw [weeW_val _ _ _ (by lia) (by lia) hK, e1, d4, d100, d400]
      exact congrArg (· % 7) (add497 _ _ _ _ _ _ _)
    · rw [weeW_val _ _ _ (by lia) h1 hK, e, d4, d100, d400]
      exact congrArg (· % 7) (add497 _ _ _ _ _ _ _)
  rw [hS, numW_val _ (numD_nonneg I J K hI h1 h2 hK), numD_g I q r J K e hI h1 h2]
  generalize hw r J = x at *
  generalize g r J = y at *
  have e9 : K + 497 * q + x + 6 - (K - 32075 + 146097 * q + y + 1) = x + 6 - (y - 32074) + 7 * (-20800 * q) := by clear hc hI h1 h2 hK hS e ej; lia
  rw [Int.emod_add_emod, Int.emod_eq_emod_iff_emod_sub_eq_zero, e9, Int.add_mul_emod_self_left]
  exact hc
end Mine
open PySem PySem.W PySem.Spec PySem.Calls PyProof.Rows
set_option maxRecDepth 100000
set_option rowWalk.seconds 0
namespace Mine
-- part Hd
noncomputable def Keep {P : Prop} (_ : P) (X : Prop) : Prop := X
theorem keepH {P : Prop} (h : P) {X : Prop} (x : Keep h X) : X := x
theorem hd.tw2867327485932766208 : True := trivial
theorem hd.tw4971549296188076032 : True := trivial
theorem hd.tw1800889605409440832 : True := trivial
theorem hd.tw6353847161142903872 : True := trivial
theorem hd.tw4523669819894539328 : True := trivial
theorem hd.tw6276725880618359904 : True := trivial
theorem hd.tw4706079058837389440 : True := trivial
theorem hd.tw5292301768408028288 : True := trivial
theorem hd.tw6830512106363814048 : True := trivial
theorem hd.tw17950676927832955104 : True := trivial
theorem hd.tw10458740792067480800 : True := trivial
theorem hd.tw2739504486584576224 : True := trivial
theorem hd.tw8381844023166312768 : True := trivial
theorem hd.tw17387473266821786944 : True := trivial
theorem hd.tw8134915037123179040 : True := trivial
theorem hd.tw15344866539931968096 : True := trivial
theorem hd.tw1359830224848277088 : True := trivial
theorem hd.tw4494801613693538912 : True := trivial
theorem hd.tw7541792107247259296 : True := trivial
theorem hd.tw12070654863422294720 : True := trivial
theorem hd.tw16694946328126371552 : True := trivial
theorem hd.tw17183224562656869120 : True := trivial
theorem hd.tw15643275761693703936 : True := trivial
theorem hd.tw5715356086224469760 : True := trivial
theorem hd.tw3350930974749635488 : True := trivial
theorem hd.tw14598272352848978880 : True := trivial
theorem hd.tw17252143746492648416 : True := trivial
theorem hd.tw10752148897807903841 : True := trivial
theorem hd.tw12127338746724423809 : True := trivial
theorem hd.tw10403243965636340961 : True := trivial
theorem hd.tw16858285156579221889 : True := trivial
theorem hd.tw4111692666942324129 : True := trivial
theorem hd.tw7512474625130614241 : True := trivial
theorem hd.tw15220180469806662145 : True := trivial
theorem hd.tw16037735763661986305 : True := trivial
theorem hd.tw2315301623876862497 : True := trivial
theorem hd.tw17336936450418997793 : True := trivial
theorem hd.tw18343703819029505601 : True := trivial
theorem hd.tw10678649693572172417 : True := trivial
theorem hd.tw13330244855972007585 : True := trivial
theorem hd.tw5343241284826551009 : True := trivial
theorem hd.tw6046454685291232161 : True := trivial
theorem hd.tw7914949630228597729 : True := trivial
theorem hd.tw8609351116199087170 : True := trivial
theorem hd.tw10905682514733158466 : True := trivial
theorem hd.tw14745743045033390146 : True := trivial
theorem hd.tw5480042469492414594 : True := trivial
theorem hd.tw6308581086252854402 : True := trivial
theorem hd.tw9731375825926819010 : True := trivial
theorem hd.tw4272726840584523970 : True := trivial
theorem hd.tw9430268157657104642 : True := trivial
theorem hd.tw4702841417184801058 : True := trivial
theorem hd.tw17588044629489971554 : True := trivial
theorem hd.tw11713075325732132258 : True := trivial
theorem hd.tw11912922877643110818 : True := trivial
theorem hd.tw5781342201191254626 : True := trivial
theorem hd.tw7031273417212677730 : True := trivial
theorem hd.tw5549315172176941698 : True := trivial
theorem hd.tw3919010098100093602 : True := trivial
theorem hd.tw5190246844813560578 : True := trivial
theorem hd.tw7525542149764818722 : True := trivial
theorem hd.tw9960721518486171458 : True := trivial
theorem hd.tw18245042118932799458 : True := trivial
theorem hd.tw8228950375871286339 : True := trivial
theorem hd.tw2304311442786299043 : True := trivial
theorem hd.tw16904818350239718627 : True := trivial
theorem hd.tw18322514126500204803 : True := trivial
theorem hd.tw17130151131035750659 : True := trivial
theorem hd.tw10847404155465417027 : True := trivial
theorem hd.tw3229955645248102723 : True := trivial
theorem hd.tw2783992281797965187 : True := trivial
theorem hd.tw11754176132448286083 : True := trivial
theorem hd.tw6411954120941647267 : True := trivial
theorem hd.tw1760603350576429475 : True := trivial
theorem hd.tw13368278939475635651 : True := trivial
theorem hd.tw17087091549796120035 : True := trivial
theorem hd.tw9153386212771759811 : True := trivial
theorem hd.tw9908193460736022307 : True := trivial
theorem hd.tw5138769234217329475 : True := trivial
theorem hd.tw11631947586910100387 : True := trivial
theorem hd.tw18293851220164018083 : True := trivial
theorem hd.tw519851828213033955 : True := trivial
theorem hd.tw17843490464661113860 : True := trivial
theorem hd.tw16477043939570097188 : True := trivial
theorem hd.tw14859038896228082724 : True := trivial
theorem hd.tw6060742912462422084 : True := trivial
theorem hd.tw6320253292602491972 : True := trivial
theorem hd.tw14896477498954680388 : True := trivial
theorem hd.tw8269573656231971908 : True := trivial
theorem hd.tw6407587892757256292 : True := trivial
theorem hd.tw17696971302532935780 : True := trivial
theorem hd.tw9228397985900620932 : True := trivial
theorem hd.tw6785817131721698500 : True := trivial
theorem hd.tw5278057926702712004 : True := trivial
theorem hd.tw6464495981786294532 : True := trivial
theorem hd.tw1299046323782801668 : True := trivial
theorem hd.tw14892549342360969540 : True := trivial
theorem hd.tw13855946660403688772 : True := trivial
theorem hd.tw9330943631129107780 : True := trivial
theorem hd.tw7676003278276379012 : True := trivial
theorem hd.tw11465210709893060100 : True := trivial
theorem hd.tw12861998865439983172 : True := trivial
theorem hd.tw8493152586797012548 : True := trivial
theorem hd.tw10949625832625181284 : True := trivial
theorem hd.tw7379015992945566340 : True := trivial
theorem hd.tw17001982702790524580 : True := trivial
theorem hd.tw2323474266016966308 : True := trivial
theorem hd.tw9013056391748086436 : True := trivial
theorem hd.tw5732804406350252772 : True := trivial
theorem hd.tw1241404454085649124 : True := trivial
theorem hd.tw9990345226319884068 : True := trivial
theorem hd.tw8684328023851190084 : True := trivial
theorem hd.tw18241275227582772068 : True := trivial
theorem hd.tw8458067239894703972 : True := trivial
theorem hd.tw3789350110615891812 : True := trivial
theorem hd.tw15770740941851376516 : True := trivial
theorem hd.tw13931416462566266981 : True := trivial
theorem hd.tw13122850982685727845 : True := trivial
theorem hd.tw8356816923877370021 : True := trivial
theorem hd.tw7355570028127101125 : True := trivial
theorem hd.tw12414669353804360901 : True := trivial
theorem hd.tw2502866573005156581 : True := trivial
theorem hd.tw11375277706881905925 : True := trivial
theorem hd.tw4292457097857839397 : True := trivial
theorem hd.tw6305734824756694309 : True := trivial
theorem hd.tw9702936160620672325 : True := trivial
theorem hd.tw10258999931320997221 : True := trivial
theorem hd.tw11893437276241958245 : True := trivial
theorem hd.tw15910714762333108613 : True := trivial
theorem hd.tw12399718760709695909 : True := trivial
theorem hd.tw4021928978595405253 : True := trivial
theorem hd.tw1847840615245081061 : True := trivial
theorem hd.tw5976792059365374437 : True := trivial
theorem hd.tw7721951785955056133 : True := trivial
theorem hd.tw15790720579355451973 : True := trivial
theorem hd.tw11251137523995926341 : True := trivial
theorem hd.tw6438293893037913957 : True := trivial
theorem hd.tw5505005885091257285 : True := trivial
theorem hd.tw17491280204586788870 : True := trivial
theorem hd.tw6555240042291301478 : True := trivial
theorem hd.tw13181700845877081190 : True := trivial
theorem hd.tw10583446816852156582 : True := trivial
theorem hd.tw13466754112058979494 : True := trivial
theorem hd.tw5899666649113621702 : True := trivial
theorem hd.tw3484992998616243462 : True := trivial
theorem hd.tw7628703163842673926 : True := trivial
theorem hd.tw8268277133935991078 : True := trivial
theorem hd.tw212345690472687942 : True := trivial
theorem hd.tw3673020696563887462 : True := trivial
theorem hd.tw11778180911958503814 : True := trivial
theorem hd.tw991583007596301734 : True := trivial
theorem hd.tw13066319289922817542 : True := trivial
theorem hd.tw2386827423013361158 : True := trivial
theorem hd.tw3795277891434052102 : True := trivial
theorem hd.tw10424393626065333798 : True := trivial
theorem hd.tw17562767543260142214 : True := trivial
theorem hd.tw2195365466389143174 : True := trivial
theorem hd.tw13903934854276604550 : True := trivial
theorem hd.tw1865391376527767206 : True := trivial
theorem hd.tw4993660671451451078 : True := trivial
theorem hd.tw1506431575118746342 : True := trivial
theorem hd.tw8990313861142287110 : True := trivial
theorem hd.tw11587034568685482758 : True := trivial
theorem hd.tw13893168526513508166 : True := trivial
theorem hd.tw7153062008950511462 : True := trivial
theorem hd.tw9386895884608548742 : True := trivial
theorem hd.tw8934143017859847078 : True := trivial
theorem hd.tw10117440562283002822 : True := trivial
theorem hd.tw5978321128707920903 : True := trivial
theorem hd.tw15043168886218598503 : True := trivial
theorem hd.tw10844753989422098599 : True := trivial
theorem hd.tw17893044597097874663 : True := trivial
theorem hd.tw15683763237869141255 : True := trivial
theorem hd.tw13445080154695654663 : True := trivial
theorem hd.tw17062030032774818151 : True := trivial
theorem hd.tw8977307856219701671 : True := trivial
theorem hd.tw5635641802508607975 : True := trivial
theorem hd.tw12659318050587179527 : True := trivial
theorem hd.tw3109861748172591687 : True := trivial
theorem hd.tw13280443560766958183 : True := trivial
theorem hd.tw12058812876911547015 : True := trivial
theorem hd.tw4449123307109862055 : True := trivial
theorem hd.tw11660266114150955751 : True := trivial
theorem hd.tw7068711184596962023 : True := trivial
theorem hd.tw5054737718236178183 : True := trivial
theorem hd.tw8960069828448710407 : True := trivial
theorem hd.tw17672654358674132775 : True := trivial
theorem hd.tw7028611270464810887 : True := trivial
theorem hd.tw701787995468756871 : True := trivial
theorem hd.tw6469175993241445255 : True := trivial
theorem hd.tw2886944701177904103 : True := trivial
theorem hd.tw8545014587354053640 : True := trivial
theorem hd.tw4282304852377368616 : True := trivial
theorem hd.tw14723167925328021672 : True := trivial
theorem hd.tw8671608845466749128 : True := trivial
theorem hd.tw2701402951725559080 : True := trivial
theorem hd.tw13642289790063256904 : True := trivial
theorem hd.tw10246146449241189800 : True := trivial
theorem hd.tw16920754564084929960 : True := trivial
theorem hd.tw12949589719889679912 : True := trivial
theorem hd.tw14457593812595234344 : True := trivial
theorem hd.tw18268791191939849864 : True := trivial
theorem hd.tw4297731678662094536 : True := trivial
theorem hd.tw4642405928176397000 : True := trivial
theorem hd.tw162610821266807592 : True := trivial
theorem hd.tw9724358948501437256 : True := trivial
theorem hd.tw17975533764899295144 : True := trivial
theorem hd.tw4870687313549177768 : True := trivial
theorem hd.tw11011131195910976488 : True := trivial
theorem hd.tw16376525773666504680 : True := trivial
theorem hd.tw189712035060473897 : True := trivial
theorem hd.tw2040990291671593033 : True := trivial
theorem hd.tw18166333605607142505 : True := trivial
theorem hd.tw14567429538950270057 : True := trivial
theorem hd.tw4225703048834024713 : True := trivial
theorem hd.tw8652628183442184457 : True := trivial
theorem hd.tw14906377314874228009 : True := trivial
theorem hd.tw10788059911547816233 : True := trivial
theorem hd.tw9244321171653502345 : True := trivial
theorem hd.tw1129884963351977449 : True := trivial
theorem hd.tw8184699220007379433 : True := trivial
theorem hd.tw515116654868589033 : True := trivial
theorem hd.tw3350844169311001129 : True := trivial
theorem hd.tw5009564483982726761 : True := trivial
theorem hd.tw663384727985864361 : True := trivial
theorem hd.tw243823211424636713 : True := trivial
theorem hd.tw9566141503761928105 : True := trivial
theorem hd.tw5148922909946612681 : True := trivial
theorem hd.tw3915529967508079626 : True := trivial
theorem hd.tw18264374347568628810 : True := trivial
theorem hd.tw7120233287515763914 : True := trivial
theorem hd.tw16009884308244765898 : True := trivial
theorem hd.tw6898005170327248138 : True := trivial
theorem hd.tw6804821044290156842 : True := trivial
theorem hd.tw9406673726873002282 : True := trivial
theorem hd.tw16794629799341752650 : True := trivial
theorem hd.tw7654286748164834634 : True := trivial
theorem hd.tw5416991563250132298 : True := trivial
theorem hd.tw9983995961361265002 : True := trivial
theorem hd.tw14492701947808656938 : True := trivial
theorem hd.tw10603584201595350602 : True := trivial
theorem hd.tw4360684699965382250 : True := trivial
theorem hd.tw9132557439983319658 : True := trivial
theorem hd.tw10170382586518783626 : True := trivial
theorem hd.tw1563692795949630186 : True := trivial
theorem hd.tw12487502673411948298 : True := trivial
theorem hd.tw12112201142124510154 : True := trivial
theorem hd.tw4478964076566166474 : True := trivial
theorem hd.tw9271970288684553227 : True := trivial
theorem hd.tw5513025101015932971 : True := trivial
theorem hd.tw12239354291974867115 : True := trivial
theorem hd.tw11128854368766332075 : True := trivial
theorem hd.tw3443669649825651883 : True := trivial
theorem hd.tw9449672872311958731 : True := trivial
theorem hd.tw12832683148521936107 : True := trivial
theorem hd.tw18176940659606848779 : True := trivial
theorem hd.tw17628472586750557451 : True := trivial
theorem hd.tw11917015161858427179 : True := trivial
theorem hd.tw6449127861642672459 : True := trivial
theorem hd.tw9170477692918782315 : True := trivial
theorem hd.tw17070941380808615275 : True := trivial
theorem hd.tw10030107230732127627 : True := trivial
theorem hd.tw9736546385927885227 : True := trivial
theorem hd.tw17054507655720011243 : True := trivial
theorem hd.tw6683769817339685419 : True := trivial
theorem hd.tw7534799579077118603 : True := trivial
theorem hd.tw9741134391959003819 : True := trivial
theorem hd.tw15089522573102190283 : True := trivial
theorem hd.tw8727321023445011275 : True := trivial
theorem hd.tw6196171512934965099 : True := trivial
theorem hd.tw8716120427605611371 : True := trivial
theorem hd.tw978945382295711627 : True := trivial
theorem hd.tw6264232113106981867 : True := trivial
theorem hd.tw4315991029959535628 : True := trivial
theorem hd.tw4136554803537287180 : True := trivial
theorem hd.tw6394381022753523788 : True := trivial
theorem hd.tw1836080755315867724 : True := trivial
theorem hd.tw13217827037086042188 : True := trivial
theorem hd.tw12647368939536790636 : True := trivial
theorem hd.tw3922637787740509324 : True := trivial
theorem hd.tw6186238094035137676 : True := trivial
theorem hd.tw1043307727769730188 : True := trivial
theorem hd.tw14060154772996877548 : True := trivial
theorem hd.tw16299908979028503884 : True := trivial
theorem hd.tw12092154237167983948 : True := trivial
theorem hd.tw2930668341846507884 : True := trivial
theorem hd.tw17711083657039698284 : True := trivial
theorem hd.tw6461092829900370380 : True := trivial
theorem hd.tw15687388767607454252 : True := trivial
theorem hd.tw6482722132109649516 : True := trivial
theorem hd.tw5130813555471234732 : True := trivial
theorem hd.tw8004679753235328684 : True := trivial
theorem hd.tw17948085552500728524 : True := trivial
theorem hd.tw18185175575083235020 : True := trivial
theorem hd.tw7270182246851987180 : True := trivial
theorem hd.tw12588582704262371052 : True := trivial
theorem hd.tw6819123309680001836 : True := trivial
theorem hd.tw15368132723985388332 : True := trivial
theorem hd.tw16171809288044610508 : True := trivial
theorem hd.tw10781468475247234061 : True := trivial
theorem hd.tw14754404106442844205 : True := trivial
theorem hd.tw15837987909243819085 : True := trivial
theorem hd.tw1409312971732116557 : True := trivial
theorem hd.tw257007361410690125 : True := trivial
theorem hd.tw14461795720631691437 : True := trivial
theorem hd.tw1013155817946168525 : True := trivial
theorem hd.tw13321331477185743149 : True := trivial
theorem hd.tw17821661813734597965 : True := trivial
theorem hd.tw16919406825032445293 : True := trivial
theorem hd.tw16345102440705955213 : True := trivial
theorem hd.tw8457440626546761165 : True := trivial
theorem hd.tw3404104791013757517 : True := trivial
theorem hd.tw6184208073178115725 : True := trivial
theorem hd.tw5036846961687405229 : True := trivial
theorem hd.tw14294344414604881677 : True := trivial
theorem hd.tw4068527845204499245 : True := trivial
theorem hd.tw16240987189780228909 : True := trivial
theorem hd.tw11249132867342737325 : True := trivial
theorem hd.tw10404513684093684653 : True := trivial
theorem hd.tw13929354066492186541 : True := trivial
theorem hd.tw9577689765879766989 : True := trivial
theorem hd.tw11801993109049149486 : True := trivial
theorem hd.tw9398405308114057262 : True := trivial
theorem hd.tw14980023328507725902 : True := trivial
theorem hd.tw7880807054014371918 : True := trivial
theorem hd.tw11968265576560266318 : True := trivial
theorem hd.tw14294001040229213422 : True := trivial
theorem hd.tw4654797750381630734 : True := trivial
theorem hd.tw17989097746536338734 : True := trivial
theorem hd.tw17311223219408574766 : True := trivial
theorem hd.tw10203026625882799534 : True := trivial
theorem hd.tw185848376630758926 : True := trivial
theorem hd.tw12952509933414984302 : True := trivial
theorem hd.tw12940713784782232206 : True := trivial
theorem hd.tw6816204898703644334 : True := trivial
theorem hd.tw1781861727890032366 : True := trivial
theorem hd.tw9555612238305686254 : True := trivial
theorem hd.tw4159134105002834734 : True := trivial
theorem hd.tw3196399650302076718 : True := trivial
theorem hd.tw16722109127936396110 : True := trivial
theorem hd.tw14553816603554493358 : True := trivial
theorem hd.tw9345929723534960622 : True := trivial
theorem hd.tw12268275109542032366 : True := trivial
theorem hd.tw13363553139645760527 : True := trivial
theorem hd.tw1452849714261714991 : True := trivial
theorem hd.tw11632984921778587759 : True := trivial
theorem hd.tw15616948245753086127 : True := trivial
theorem hd.tw2442259710966052079 : True := trivial
theorem hd.tw17330132731328240911 : True := trivial
theorem hd.tw8587404781116728655 : True := trivial
theorem hd.tw12631932088317031055 : True := trivial
theorem hd.tw10012880186880212623 : True := trivial
theorem hd.tw5987830557187376847 : True := trivial
theorem hd.tw6990203504111849199 : True := trivial
theorem hd.tw2101469004524951375 : True := trivial
theorem hd.tw11319892378374348655 : True := trivial
theorem hd.tw9657781627882305391 : True := trivial
theorem hd.tw13315533130655954831 : True := trivial
theorem hd.tw8879563391730754479 : True := trivial
theorem hd.tw16649331688326792143 : True := trivial
theorem hd.tw15207398651663016943 : True := trivial
theorem hd.tw10111801491309104144 : True := trivial
theorem hd.tw402640490398009360 : True := trivial
theorem hd.tw8801323125487838256 : True := trivial
theorem hd.tw10216474801634566288 : True := trivial
theorem hd.tw10491609206876299696 : True := trivial
theorem hd.tw7891253978561527248 : True := trivial
theorem hd.tw13285133528070534704 : True := trivial
theorem hd.tw7152984921513172624 : True := trivial
theorem hd.tw7382370116671421104 : True := trivial
theorem hd.tw4856431653887292112 : True := trivial
theorem hd.tw14667805832236412624 : True := trivial
theorem hd.tw13518370688599389936 : True := trivial
theorem hd.tw8351282476255451920 : True := trivial
theorem hd.tw12614811148066621264 : True := trivial
theorem hd.tw17902569758825723728 : True := trivial
theorem hd.tw15595854959937240912 : True := trivial
theorem hd.tw6755925336976613232 : True := trivial
theorem hd.tw7752569895197466512 : True := trivial
theorem hd.tw15279998641719260112 : True := trivial
theorem hd.tw16178712458983371728 : True := trivial
theorem hd.tw3434918251397683217 : True := trivial
theorem hd.tw13790719812936386609 : True := trivial
theorem hd.tw876933089483189297 : True := trivial
theorem hd.tw15527848837575444561 : True := trivial
theorem hd.tw17213754286329925777 : True := trivial
theorem hd.tw5247051413645994129 : True := trivial
theorem hd.tw2000490053193787569 : True := trivial
theorem hd.tw280609765759037681 : True := trivial
theorem hd.tw432457690288141553 : True := trivial
theorem hd.tw14705683404202351889 : True := trivial
theorem hd.tw6882427118574961969 : True := trivial
theorem hd.tw1005483496087919985 : True := trivial
theorem hd.tw17903497710992402801 : True := trivial
theorem hd.tw11184233589655437745 : True := trivial
theorem hd.tw15852365999677673905 : True := trivial
theorem hd.tw16056359734778111409 : True := trivial
theorem hd.tw7082855905992002993 : True := trivial
theorem hd.tw11034497122203965937 : True := trivial
theorem hd.tw8015326511298524721 : True := trivial
theorem hd.tw13220430256171166289 : True := trivial
theorem hd.tw3828038474966422129 : True := trivial
theorem hd.tw5961118342813265553 : True := trivial
theorem hd.tw8117029840178788049 : True := trivial
theorem hd.tw4990156530697904881 : True := trivial
theorem hd.tw6545403380812914513 : True := trivial
theorem hd.tw7317836474542784337 : True := trivial
theorem hd.tw6578402527460240241 : True := trivial
theorem hd.tw16053994301053490033 : True := trivial
theorem hd.tw5716766192118558609 : True := trivial
theorem hd.tw16029623286316568529 : True := trivial
theorem hd.tw6759412095888398321 : True := trivial
theorem hd.tw8683856772340465682 : True := trivial
theorem hd.tw2391449824757734642 : True := trivial
theorem hd.tw8025032847418708242 : True := trivial
theorem hd.tw15166520500009309586 : True := trivial
theorem hd.tw9499510787657705874 : True := trivial
theorem hd.tw14772383043592177042 : True := trivial
theorem hd.tw15813434630575017362 : True := trivial
theorem hd.tw7754304195085646258 : True := trivial
theorem hd.tw5366084841770067474 : True := trivial
theorem hd.tw2167537188350426706 : True := trivial
theorem hd.tw5282504435634884242 : True := trivial
theorem hd.tw17377529257436501650 : True := trivial
theorem hd.tw16257038226119295666 : True := trivial
theorem hd.tw1580110805410547442 : True := trivial
theorem hd.tw10465514089279642386 : True := trivial
theorem hd.tw8053944837975664402 : True := trivial
theorem hd.tw14560493823538711346 : True := trivial
theorem hd.tw9298403506768410418 : True := trivial
theorem hd.tw6293948785866598258 : True := trivial
theorem hd.tw12629568148972539762 : True := trivial
theorem hd.tw7296583596125217682 : True := trivial
theorem hd.tw8112040973832200146 : True := trivial
theorem hd.tw15083628210047938546 : True := trivial
theorem hd.tw8538877666451538035 : True := trivial
theorem hd.tw3694398316872202419 : True := trivial
theorem hd.tw10806950440038215891 : True := trivial
theorem hd.tw5657824000916062451 : True := trivial
theorem hd.tw17454471701868102899 : True := trivial
theorem hd.tw8745986378241412371 : True := trivial
theorem hd.tw5238241317806426387 : True := trivial
theorem hd.tw12590977762386282803 : True := trivial
theorem hd.tw16945582573551092051 : True := trivial
theorem hd.tw16502264421070913907 : True := trivial
theorem hd.tw16006246977917349235 : True := trivial
theorem hd.tw1382963296337349011 : True := trivial
theorem hd.tw7793673504863384051 : True := trivial
theorem hd.tw5363564295841288755 : True := trivial
theorem hd.tw11151547217846952531 : True := trivial
theorem hd.tw18103342009636024947 : True := trivial
theorem hd.tw14984183105004643987 : True := trivial
theorem hd.tw4115565904173853331 : True := trivial
theorem hd.tw3008623586974134963 : True := trivial
theorem hd.tw16640546478005224243 : True := trivial
theorem hd.tw15948780112781908787 : True := trivial
theorem hd.tw4015398097383911347 : True := trivial
theorem hd.tw8789358453043137523 : True := trivial
theorem hd.tw18103420901670897651 : True := trivial
theorem hd.tw4851647983119433812 : True := trivial
theorem hd.tw12681725875008307348 : True := trivial
theorem hd.tw4367231431732253908 : True := trivial
theorem hd.tw10596771469484781812 : True := trivial
theorem hd.tw15529170255622000948 : True := trivial
theorem hd.tw6547078798241139092 : True := trivial
theorem hd.tw6998783941825042932 : True := trivial
theorem hd.tw7366208706002141716 : True := trivial
theorem hd.tw4014540891139286612 : True := trivial
theorem hd.tw7540741092611519060 : True := trivial
theorem hd.tw11256106856564762260 : True := trivial
theorem hd.tw9131607905817354932 : True := trivial
theorem hd.tw10738003575532504788 : True := trivial
theorem hd.tw16936136154773448436 : True := trivial
theorem hd.tw697623264460660564 : True := trivial
theorem hd.tw1997569388931296116 : True := trivial
theorem hd.tw6136932545381038964 : True := trivial
theorem hd.tw226724450230711188 : True := trivial
theorem hd.tw17542962492245011380 : True := trivial
theorem hd.tw5629675986466331604 : True := trivial
theorem hd.tw1439246655266547700 : True := trivial
theorem hd.tw6598312636042714100 : True := trivial
theorem hd.tw602767948455487509 : True := trivial
theorem hd.tw17234923516513369237 : True := trivial
theorem hd.tw9496365245306024149 : True := trivial
theorem hd.tw12870888531099404533 : True := trivial
theorem hd.tw13225837485096350037 : True := trivial
theorem hd.tw6442067068224118133 : True := trivial
theorem hd.tw11663481321943121269 : True := trivial
theorem hd.tw10264135568141901301 : True := trivial
theorem hd.tw2608437505485318709 : True := trivial
theorem hd.tw17673860158736603733 : True := trivial
theorem hd.tw3571134770919094901 : True := trivial
theorem hd.tw16357263729072622229 : True := trivial
theorem hd.tw12173100003817136821 : True := trivial
theorem hd.tw7494724483528729301 : True := trivial
theorem hd.tw5486487638281291605 : True := trivial
theorem hd.tw16302227732802510677 : True := trivial
theorem hd.tw13483081372092288885 : True := trivial
theorem hd.tw1666387254794493845 : True := trivial
theorem hd.tw9427301549700849589 : True := trivial
theorem hd.tw3941438180925939637 : True := trivial
theorem hd.tw1425423193147277237 : True := trivial
theorem hd.tw6820862383352777685 : True := trivial
theorem hd.tw10919297434634762262 : True := trivial
theorem hd.tw8965841893048198262 : True := trivial
theorem hd.tw8343274005884668182 : True := trivial
theorem hd.tw1848646778235469078 : True := trivial
theorem hd.tw1413172679324656950 : True := trivial
theorem hd.tw16473244170626142550 : True := trivial
theorem hd.tw16713699803418581334 : True := trivial
theorem hd.tw9155422001095189878 : True := trivial
theorem hd.tw3452082135128663414 : True := trivial
theorem hd.tw15610959940260225430 : True := trivial
theorem hd.tw11213053971927718326 : True := trivial
theorem hd.tw16155205043701107222 : True := trivial
theorem hd.tw7752767780024739350 : True := trivial
theorem hd.tw17420951861521290806 : True := trivial
theorem hd.tw12131494931117144662 : True := trivial
theorem hd.tw7369741819223213686 : True := trivial
theorem hd.tw15179676742415161110 : True := trivial
theorem hd.tw6184460063843016694 : True := trivial
theorem hd.tw15367242080415987702 : True := trivial
theorem hd.tw15615537253650120727 : True := trivial
theorem hd.tw11905163887095721015 : True := trivial
theorem hd.tw14029546391885035639 : True := trivial
theorem hd.tw2216850387143573719 : True := trivial
theorem hd.tw2448417245163862455 : True := trivial
theorem hd.tw5283464899586487735 : True := trivial
theorem hd.tw16970440968685349367 : True := trivial
theorem hd.tw3442329435671937591 : True := trivial
theorem hd.tw15416985209724490359 : True := trivial
theorem hd.tw7292484366425897655 : True := trivial
theorem hd.tw12393119488966705847 : True := trivial
theorem hd.tw17042694160793651959 : True := trivial
theorem hd.tw3381375190539634487 : True := trivial
theorem hd.tw2715645830499865399 : True := trivial
theorem hd.tw11402939732021071671 : True := trivial
theorem hd.tw9073681462420916055 : True := trivial
theorem hd.tw10879034167726328663 : True := trivial
theorem hd.tw11389486352061984695 : True := trivial
theorem hd.tw6140570298594658328 : True := trivial
theorem hd.tw2951005344575393816 : True := trivial
theorem hd.tw7354087734392854552 : True := trivial
theorem hd.tw15946388913382835224 : True := trivial
theorem hd.tw9345676750909349944 : True := trivial
theorem hd.tw5562173858411828344 : True := trivial
theorem hd.tw16456969618363192440 : True := trivial
theorem hd.tw262745018181394680 : True := trivial
theorem hd.tw17650839729002327288 : True := trivial
theorem hd.tw18093812233618175256 : True := trivial
theorem hd.tw2274498078352570744 : True := trivial
theorem hd.tw14768889098011018680 : True := trivial
theorem hd.tw13866372431405929976 : True := trivial
theorem hd.tw26425463804135960 : True := trivial
theorem hd.tw13267510147771200024 : True := trivial
theorem hd.tw7191455744419660376 : True := trivial
theorem hd.tw12769127236821124696 : True := trivial
theorem hd.tw15048261121198461528 : True := trivial
theorem hd.tw10727248033764811480 : True := trivial
theorem hd.tw8516288146210602744 : True := trivial
theorem hd.tw8770205317985620760 : True := trivial
theorem hd.tw18163647496604598072 : True := trivial
theorem hd.tw10860895700388868024 : True := trivial
theorem hd.tw15987713032478767096 : True := trivial
theorem hd.tw12994019391074448376 : True := trivial
theorem hd.tw4065347644161347641 : True := trivial
theorem hd.tw13342606739435360313 : True := trivial
theorem hd.tw4788038989552484473 : True := trivial
theorem hd.tw728884934406724761 : True := trivial
theorem hd.tw1588505670450824345 : True := trivial
theorem hd.tw732345407407602841 : True := trivial
theorem hd.tw15213948185873263833 : True := trivial
theorem hd.tw2603259988358896889 : True := trivial
theorem hd.tw2845679848157327705 : True := trivial
theorem hd.tw18291419657060728153 : True := trivial
theorem hd.tw15411387601460861337 : True := trivial
theorem hd.tw1222794163293265305 : True := trivial
theorem hd.tw11364443708160879001 : True := trivial
theorem hd.tw11399449904127653305 : True := trivial
theorem hd.tw11054480109507316185 : True := trivial
theorem hd.tw3953601041324332601 : True := trivial
theorem hd.tw8317466277049474617 : True := trivial
theorem hd.tw12350410155528471161 : True := trivial
theorem hd.tw881544763273948857 : True := trivial
theorem hd.tw16772102934027710169 : True := trivial
theorem hd.tw17330945745186091897 : True := trivial
theorem hd.tw8081886968326746073 : True := trivial
theorem hd.tw6982297934935202809 : True := trivial
theorem hd.tw22551697357593593 : True := trivial
theorem hd.tw13132618709999183898 : True := trivial
theorem hd.tw7854228177987924090 : True := trivial
theorem hd.tw5902613922787404954 : True := trivial
theorem hd.tw15673258824015622330 : True := trivial
theorem hd.tw11953376511379268794 : True := trivial
theorem hd.tw541196102884509978 : True := trivial
theorem hd.tw12050417470231563642 : True := trivial
theorem hd.tw2114630138375439770 : True := trivial
theorem hd.tw5592360268479517082 : True := trivial
theorem hd.tw464777395874653626 : True := trivial
theorem hd.tw9421340871869096474 : True := trivial
theorem hd.tw1600037746751723098 : True := trivial
theorem hd.tw7698358502638924378 : True := trivial
theorem hd.tw8815870391112144570 : True := trivial
theorem hd.tw5373601922739893978 : True := trivial
theorem hd.tw14960593345356199642 : True := trivial
theorem hd.tw7598622570094877466 : True := trivial
theorem hd.tw11232374478483605306 : True := trivial
theorem hd.tw8671951586514369370 : True := trivial
theorem hd.tw12394076208661396346 : True := trivial
theorem hd.tw11652457597714270106 : True := trivial
theorem hd.tw13038990169509382042 : True := trivial
theorem hd.tw8273930003744585626 : True := trivial
theorem hd.tw1610171440888473627 : True := trivial
theorem hd.tw7927469264209771579 : True := trivial
theorem hd.tw13372043803930879067 : True := trivial
theorem hd.tw12685813987229840507 : True := trivial
theorem hd.tw14137390275340422267 : True := trivial
theorem hd.tw11032806212648032379 : True := trivial
theorem hd.tw15103106377680225435 : True := trivial
theorem hd.tw14353793391729792155 : True := trivial
theorem hd.tw11079593142295127227 : True := trivial
theorem hd.tw11672842613191775419 : True := trivial
theorem hd.tw128412058910260475 : True := trivial
theorem hd.tw15701855499394270491 : True := trivial
theorem hd.tw4819202231147424091 : True := trivial
theorem hd.tw6767318904944593275 : True := trivial
theorem hd.tw2051048951616859547 : True := trivial
theorem hd.tw10024716035694756283 : True := trivial
theorem hd.tw13828106393651249627 : True := trivial
theorem hd.tw17491317419825422843 : True := trivial
theorem hd.tw5388632664720090651 : True := trivial
theorem hd.tw16007149819294483003 : True := trivial
theorem hd.tw3085183777334472315 : True := trivial
theorem hd.tw2068664650715991707 : True := trivial
theorem hd.tw9719896912496429819 : True := trivial
theorem hd.tw17177331786930743035 : True := trivial
theorem hd.tw1792636949448641307 : True := trivial
theorem hd.tw6965799899956892507 : True := trivial
theorem hd.tw461538923250603899 : True := trivial
theorem hd.tw15642763164714097627 : True := trivial
theorem hd.tw13770079208771991547 : True := trivial
theorem hd.tw13365295217650922812 : True := trivial
theorem hd.tw395138700845864316 : True := trivial
theorem hd.tw15615420239508185596 : True := trivial
theorem hd.tw12591134339009171964 : True := trivial
theorem hd.tw16091413853298234908 : True := trivial
theorem hd.tw7085514621470718492 : True := trivial
theorem hd.tw2887051446865420828 : True := trivial
theorem hd.tw7578210074245671484 : True := trivial
theorem hd.tw1699103778626983548 : True := trivial
theorem hd.tw3451239065008710300 : True := trivial
theorem hd.tw17599816209265215132 : True := trivial
theorem hd.tw2252305205657439004 : True := trivial
theorem hd.tw4182648748547736412 : True := trivial
theorem hd.tw4402725079659364252 : True := trivial
theorem hd.tw14852329139284432860 : True := trivial
theorem hd.tw1331086792558400476 : True := trivial
theorem hd.tw2483235414948986876 : True := trivial
theorem hd.tw17986969038992634876 : True := trivial
theorem hd.tw18219297243305740317 : True := trivial
theorem hd.tw922143313871775805 : True := trivial
theorem hd.tw4363365295628954845 : True := trivial
theorem hd.tw17714235663813219645 : True := trivial
theorem hd.tw2457190517430149469 : True := trivial
theorem hd.tw2855845756224970109 : True := trivial
theorem hd.tw13029831319620015485 : True := trivial
theorem hd.tw4478177076189095293 : True := trivial
theorem hd.tw6924109203229866365 : True := trivial
theorem hd.tw18175329361295489469 : True := trivial
theorem hd.tw14462709497994964445 : True := trivial
theorem hd.tw5608270528595127837 : True := trivial
theorem hd.tw13532847315355080253 : True := trivial
theorem hd.tw7763873220885509757 : True := trivial
theorem hd.tw3646829019195819677 : True := trivial
theorem hd.tw3704167492566942397 : True := trivial
theorem hd.tw526207354791536317 : True := trivial
theorem hd.tw13531707123254989501 : True := trivial
theorem hd.tw15578025631644234493 : True := trivial
theorem hd.tw845060206244984605 : True := trivial
theorem hd.tw8226494294326810461 : True := trivial
theorem hd.tw15833661619300960221 : True := trivial
theorem hd.tw9277588360372424766 : True := trivial
theorem hd.tw3182187488490625086 : True := trivial
theorem hd.tw11631869004601391166 : True := trivial
theorem hd.tw9673543361469618366 : True := trivial
theorem hd.tw6123773746684550334 : True := trivial
theorem hd.tw6838551448383532254 : True := trivial
theorem hd.tw4643362625855044894 : True := trivial
theorem hd.tw16259696140248634718 : True := trivial
theorem hd.tw4172343393113369950 : True := trivial
theorem hd.tw17681399029576232318 : True := trivial
theorem hd.tw8664936974563722654 : True := trivial
theorem hd.tw17901334829092211166 : True := trivial
theorem hd.tw17739348878880393726 : True := trivial
theorem hd.tw2329189449893159454 : True := trivial
theorem hd.tw3480954088277226078 : True := trivial
theorem hd.tw9763420282994701918 : True := trivial
theorem hd.tw7510230149288206974 : True := trivial
theorem hd.tw4126045976151532286 : True := trivial
theorem hd.tw8047900516022102942 : True := trivial
theorem hd.tw14620637471214046174 : True := trivial
theorem hd.tw6423634429210846174 : True := trivial
theorem hd.tw14955159897011116063 : True := trivial
theorem hd.tw6931407450589930559 : True := trivial
theorem hd.tw12070051907170230399 : True := trivial
theorem hd.tw3530705653197291679 : True := trivial
theorem hd.tw4478166936697009375 : True := trivial
theorem hd.tw1954109241102656831 : True := trivial
theorem hd.tw2781682124601125471 : True := trivial
theorem hd.tw14400467628812073631 : True := trivial
theorem hd.tw5245234834050458271 : True := trivial
theorem hd.tw442638132926106271 : True := trivial
theorem hd.tw3309697970292668127 : True := trivial
theorem hd.tw5838530555821523488 : True := trivial
theorem hd.tw10176503059249128745 : True := trivial
section
open Lean in
local macro_rules
  | `(tactic| refine $e:term) => match e with
    | `($f:ident $args*) =>
      if f.getId == `PySem.W.holds_open then do
        let last : TSyntax `term := ⟨args.back!⟩
        let w ← `((Mine.keepH $(mkIdent `walkH) $last))
        let args := args.pop.push ⟨w⟩
        `(tactic| refine ($f:ident $args*))
      else Macro.throwUnsupported
    | _ => Macro.throwUnsupported
set_option Elab.async true in
set_option maxRecDepth 100000 in
set_option maxHeartbeats 8000000 in
theorem hd : True := by
  let rec walk (walkH : _) : PySem.Challenge.rw_zu0017_01.Holds := by
    w_on; o_law; k_head; (case hw => w_witness2)
    unfold Keep
    exact walkH
  trivial
end

-- part D1
section
variable {prog : Program} {w : World} {A : Around} {E : Value → Shared → Prop} {h₀ : Heap} {L d : Addr} {m : Str → Option Value}
/-- pairs of a display that make nothing -/
noncomputable def LongPairs (prog : Program) (w : World) (A : Around) (E : Value → Shared → Prop) (h₀ : Heap) (L : Addr) (m : Str → Option Value) : List (Sem Value × Sem Value) → List (Str × Value) → Prop
  | [], [] => True
  | (k, v) :: r, (x, y) :: q =>
    (∀ s (Q : Value → Shared → Prop), Fr h₀ L s.heap m → (∀ t tk, Q (.str x t) { s with toks := tk }) → wpAny (model prog w) A k Q E s) ∧
    (∀ s (Q : Value → Shared → Prop), Fr h₀ L s.heap m → Q y s → wpAny (model prog w) A v Q E s) ∧ LongPairs prog w A E h₀ L m r q
  | _, _ => False
theorem long_loop (hd0 : h₀.get? d = none) (hdL : d ≠ L) : ∀ (pairs : List (Sem Value × Sem Value)) (kvs acc : List (Str × Value)) (s : Shared) (Q : PUnit → Shared → Prop), LongPairs prog w A E h₀ L m pairs kvs → Fr h₀ L s.heap m →
    s.heap.DictOf (PySem.strKind prog w) d acc → acc.length + kvs.length ≤ sizeLine →
    (∀ h' tk, h'.DictOf (PySem.strKind prog w) d (merged acc kvs) → Heap.SameBut d s.heap h' → Q PUnit.unit { s with heap := h', toks := tk }) →
    wpAny (model prog w) A (forIn pairs PUnit.unit fun (x : Sem Value × Sem Value) (_ : PUnit) => (do
      let kv ← x.1
      let vv ← holding [kv] x.2
      holding [kv, vv] (dictSet d kv vv)
      pure (ForInStep.yield PUnit.unit) : Sem (ForInStep PUnit))) Q E s
  | [], [], acc, s, Q, _, F, hm, _, hQ => by
    rw [List.forIn_nil]
    exact wpAny_pure (by simpa [merged] using hQ s.heap s.toks (by simpa [merged] using hm) (Heap.SameBut.refl _ _))
  | (k, v) :: r, (x, y) :: q, acc, s, Q, hp, F, hm, hsz, hQ => by
    obtain ⟨hk, hv, hr⟩ := hp
    rw [List.length_cons] at hsz
    rw [List.forIn_cons]
    refine wpAny_bind (wpAny_bind (hk s _ F fun t tk => ?_))
    refine wpAny_bind (wpAny_holding (hv _ _ F ?_))
    refine wpAny_bind (wpAny_holding (wpAny_dictSet_pairs (hsz := by omega) (strKind_is prog w x t) hm fun h₁ hm₁ hs₁ => wpAny_pure ?_))
    have F₁ : Fr h₀ L h₁ m := F.change hs₁ hdL hd0
    refine long_loop hd0 hdL r q (stored acc x y) _ Q hr F₁ hm₁ (by have e := stored_length_le acc x y; omega) fun h' tk' hm' hs' => ?_
    exact hQ h' tk' (by simpa [merged] using hm') (hs₁.trans hs')
  | [], _ :: _, _, _, _, hp, _, _, _, _ => hp.elim
  | _ :: _, [], _, _, _, hp, _, _, _, _ => hp.elim
theorem long_sub {s : Shared} {pairs : List (Sem Value × Sem Value)} {kvs : List (Str × Value)} {Q : Addr → Shared → Prop} (F : Fr h₀ L s.heap m) (hlen : ¬ pairs.length ≤ 15) (hsz : kvs.length ≤ sizeLine) (hp : LongPairs prog w A E h₀ L m pairs kvs)
    (h : ∀ h' tk, h'.DictOf (PySem.strKind prog w) s.heap.objs.size (merged [] kvs) → Heap.SameBut s.heap.objs.size (s.heap.push { cls := .type "dict", data := .dict #[] }) h' → Q s.heap.objs.size { s with heap := h', toks := tk }) :
    wpAny (model prog w) A (subDict pairs) Q E s := by
  unfold subDict
  refine wpAny_bind (wpAny_alloc ?_)
  refine wpAny_bind (wpAny_holding ?_)
  rw [if_neg hlen]
  refine wpAny_bind (m := rule _) (wpAny_rule ?_)
  have N1 := News.push F (News.nil (h₀ := h₀) (L := L)) { cls := .type "dict", data := .dict #[] }
  have z := N1 _ (.head _)
  exact wpAny_bind (long_loop z.2.2 z.2.1 pairs kvs [] _ _ hp (F.push _) (Heap.DictOf.new s.heap) (by simpa using hsz) fun h' tk hm hs => wpAny_pure (wpAny_pure (h h' tk hm hs)))
theorem long_dict {s : Shared} {env : Env} {keys : List (Option PySem.Expr)} {values : List PySem.Expr} {pos : Pos} {pairs : List (Sem Value × Sem Value)} {kvs : List (Str × Value)} {Q : Value → Shared → Prop} {news : List (Addr × Obj)} (F : Fr h₀ L s.heap m) (N : News h₀ L s.heap news) (hbig : h₀.NoLimit)
    (hshape : (evalEachOpt keys env).zip ((evalEach values env).map fun v => do let x ← v; standAt pos; pure x) = pairs.map fun p => (some p.1, p.2)) (h0 : pairs ≠ []) (hlen : ¬ pairs.length ≤ 15) (hlen2 : pairs.length < 17) (hsz : kvs.length ≤ sizeLine) (hp : LongPairs prog w A E h₀ L m pairs kvs)
    (hn : (kvs.map (·.1)).Nodup)
    (h : ∀ d h' o tk, Fr h₀ L h' m → News h₀ L h' ((d, o) :: news) → (∀ p ∈ news, p.1 < d) → (d == sysModules) = false → o.IsDictOf (PySem.strKind prog w) kvs → Q (.ref d) { s with heap := h', toks := tk }) :
    wpAny (model prog w) A (eval (.Dict keys values pos) env) Q E s := by
  rw [arm_eval_Dict, hshape, dictDisplay_pairs pairs h0 hlen2]
  refine wpAny_bind (wpAny_standAt (wpAny_bind (long_sub F hlen hsz hp fun h' tk hm hs => wpAny_pure ?_)))
  rw [merged_nil_of_nodup kvs hn] at hm
  obtain ⟨o', ho', hd'⟩ := Heap.dictOf_iff.mp hm
  have N1 := News.push F N { cls := .type "dict", data := .dict #[] }
  exact h _ h' o' tk ((F.push _).change hs (N1 _ (.head _)).2.1 (N1.fresh (.head _))) (N1.setHead N.apart hs ho') (fun p hp => Heap.lt_size (N p hp).1) (F.notModules (modules_low hbig)) hd'
end
-- part A1
noncomputable abbrev tup (vs : List Value) : Obj := { cls := .type "tuple", data := .seq vs.toArray }
noncomputable abbrev lst (vs : List Value) : Obj := { cls := .type "list", data := .seq vs.toArray }
noncomputable abbrev lstN (vs : List Value) (n : Nat) : Obj := { cls := .type "list", data := .seq vs.toArray n }

section
variable {prog : Program} {w : World} {A₀ A : Around} {s : Shared} {base h₀ : Heap} {outer : List Env} {L : Addr} {m mg mb : Str → Option Value} {env : Env} {K : Frag} {p : Program} {loose : List Str} {mean : ExcName → Option Value}
  {R : Result → Shared → Prop} {name qual : Str} {params : Arguments} {body : List Stmt} {scope : Scope} {dV kV doc pm cdv ct oc : Value} {an od : Option Addr} {osl : Array (Option Value)} {f : Addr} {args : Args} {binds : List (Str × Value)}

/-- what a call hands on: all that stood before it stands behind it, if what lay open to it does -/
noncomputable def Kept (s : Shared) (lit : List (Addr × Obj)) (R : Result → Shared → Prop) (r : Result) (s' : Shared) : Prop :=
  ((∀ q ∈ lit, s'.heap.get? q.1 = some q.2) → ∀ b o, s.heap.get? b = some o → s'.heap.get? b = some o) → R r s'

/-- entering a def with a ledger of one's own choice: all else of the heap is old ground -/
theorem enter (lit : List (Addr × Obj)) (B : Below A₀ base outer h₀) (F : Fr h₀ L s.heap m) (X₀ : K.In h₀) (N : News h₀ L s.heap lit) (T : Top p loose mean mg mb h₀) (hA : A.frames = some (env :: outer)) (hf : env.frame = some L) (hke : env.scope.kind = .function)
    (ho : K.lookup f = some ⟨oc, od, .func (fnOf name qual params body scope dV kV doc pm an cdv ct), osl⟩) (hcd : codeIn K cdv qual = true) (hroom : A.depth < recursionLimit)
    (hbind : BindsTo s (fnOf name qual params body scope dV kV doc pm an cdv ct) args binds) (hloc : ∀ y ∈ binds, scope.names.lookup y.1 = some .local)
    (h : ∀ g L' h₁, (∀ b o, s.heap.get? b = some o → b ∉ lit.map (·.1) → g.get? b = some o) → Fr h₀ L g m → Fr g L' h₁ (fun y => binds.reverse.lookup y) → News g L' h₁ lit → Below A base (env :: outer) g → K.In g → Top p loose mean mg mb g →
      wpAny (model prog w) (A.deeper (envOf qual scope L' f cdv)) (execs body (envOf qual scope L' f cdv))
        (fun fl s' => LeaveK h₀ L m g (Kept s lit R) (match fl with | .ret v => v | _ => .none) s')
        (fun e s' => wpAny (model prog w) (A.deeper (envOf qual scope L' f cdv)) (leaving (envOf qual scope L' f cdv) e) (fun _ s'' => R (.error e) s'') (fun e' s'' => R (.error e') s'') s')
        { s with heap := h₁, toks := s.toks + binds.length })
    (hco : scope.isCoroutine = false) (hgen : scope.isGenerator = false) (hk : scope.kind = .function)
    (hcell : ∀ x ∈ scope.names, x.2 ≠ .cell) : codeAny (model prog w) A (.call (.ref f) args) R s := by
  obtain ⟨FG, BG, st, lv⟩ := groundX (R := Kept s lit R) B F N hA hf hke
  refine codeAny_call_def (fd := fnOf name qual params body scope dV kV doc pm an cdv ct) (body := body) (binds := binds) hroom (X₀.keeps F.keep _ _ ho) rfl (T.nolimit.keeps F.keep) (codeRec_of (X₀.keeps F.keep) hcd) rfl hbind hcell hloc (fun h₁ hns hk₁ => ?_) hco hgen hk
  refine wpAny_mono (h _ s.heap.objs.size h₁ (fun b o e n => hideAll_get _ e n) FG ⟨hns, fun b o e => hk₁ b o (of_hideAll _ e), Nat.le_of_eq (hideAll_size _ _)⟩
    (fun q hq => ⟨hk₁ _ _ (N q hq).1, Nat.ne_of_lt (Heap.lt_size (N q hq).1), hideAll_none _ (List.mem_map_of_mem hq)⟩) BG (X₀.keeps st) (T.keeps st)) (fun fl s' hl => ?_) fun _ _ y => y
  have hl' := lv _ _ hl
  obtain ⟨L', m', news', F', N', k⟩ := hl
  refine hl' fun hq b o e => ?_
  by_cases hb : b ∈ lit.map (·.1)
  · obtain ⟨q, hm, rfl⟩ := List.mem_map.mp hb
    have := (N q hm).1
    rw [e] at this
    cases this
    exact hq q hm
  · exact F'.keep b o (hideAll_get _ e hb)
/-- the same for a def that keeps names in cells -/
theorem enterC (lit : List (Addr × Obj)) (B : Below A₀ base outer h₀) (F : Fr h₀ L s.heap m) (X₀ : K.In h₀) (N : News h₀ L s.heap lit) (T : Top p loose mean mg mb h₀) (hA : A.frames = some (env :: outer)) (hf : env.frame = some L) (hke : env.scope.kind = .function)
    (ho : K.lookup f = some ⟨oc, od, .func (fnOf name qual params body scope dV kV doc pm an cdv ct), osl⟩) (hcd : codeIn K cdv qual = true) (hroom : A.depth < recursionLimit)
    (hbind : BindsTo s (fnOf name qual params body scope dV kV doc pm an cdv ct) args binds) (hkind : (binds.all fun y => scope.names.lookup y.1 == some .local || scope.names.lookup y.1 == some .cell) = true)
    (hnd : ((cellsFrom 0 scope.names []).map (·.1)).Nodup)
    (h : ∀ g L' h₁ tk cells, (∀ b o, s.heap.get? b = some o → b ∉ lit.map (·.1) → g.get? b = some o) → Fr h₀ L g m → Fr g L' h₁ (bindL (envOfC qual scope L' f cdv).kindOf binds fun _ => none) → News g L' h₁ (cells ++ lit) →
      CellsAre (bindC (envOfC qual scope L' f cdv).kindOf binds fun _ => none) (cellsFrom (L' + 1) scope.names []) cells → Below A base (env :: outer) g → K.In g → Top p loose mean mg mb g → (∀ p ∈ lit, p.1 < L') →
      wpAny (model prog w) (A.deeper (envOfC qual scope L' f cdv)) (execs body (envOfC qual scope L' f cdv))
        (fun fl s' => LeaveK h₀ L m g (Kept s lit R) (match fl with | .ret v => v | _ => .none) s')
        (fun e s' => wpAny (model prog w) (A.deeper (envOfC qual scope L' f cdv)) (leaving (envOfC qual scope L' f cdv) e) (fun _ s'' => R (.error e) s'') (fun e' s'' => R (.error e') s'') s')
        { s with heap := h₁, toks := tk })
    (hco : scope.isCoroutine = false) (hgen : scope.isGenerator = false) (hk : scope.kind = .function) : codeAny (model prog w) A (.call (.ref f) args) R s := by
  obtain ⟨FG, BG, st, lv⟩ := groundX (R := Kept s lit R) B F N hA hf hke
  refine codeAny_call_function hroom (X₀.keeps F.keep _ _ ho) rfl hco hgen rfl (codeRec_of (X₀.keeps F.keep) hcd) (hbind _ _ _ _ ?_)
  refine wpAny_newFunctionEnv_cells hk (kindsX hkind _) fun env' he s' x => ?_
  subst he
  refine ⟨(T.nolimit.keeps F.keep).keeps x.toInCall.keep, codeAny_func ?_⟩
  obtain ⟨h₁, tk, rfl, _⟩ := x.done
  have hk₁ := x.toInCall.keep
  obtain ⟨cells, NC, Y⟩ := Cl.news (h₀ := s.heap) (Nat.le_refl _) fun n c hm => ⟨x.cell n c (lookup_of_mem_nodup (cellsFrom_names scope.names 0 (s.heap.objs.size + 1) [] [] rfl ▸ hnd) hm), x.above n c hm⟩
  refine wpAny_mono (h _ s.heap.objs.size h₁ tk cells (fun b o e n => hideAll_get _ e n) FG ⟨x.toInCall.ns, fun b o e => hk₁ b o (of_hideAll _ e), Nat.le_of_eq (hideAll_size _ _)⟩ (fun q hq => ?_) Y BG (X₀.keeps st) (T.keeps st) (fun q hq => Heap.lt_size (N q hq).1)) (fun fl s' hl => ?_) fun _ _ y => y
  · rcases List.mem_append.mp hq with hq | hq
    · refine ⟨(NC q hq).1, (NC q hq).2.1, ?_⟩
      cases e : (hideAll s.heap (lit.map (·.1))).get? q.1 with
      | none => rfl
      | some o => have := of_hideAll _ e; rw [(NC q hq).2.2] at this; cases this
    · exact ⟨hk₁ _ _ (N q hq).1, Nat.ne_of_lt (Heap.lt_size (N q hq).1), hideAll_none _ (List.mem_map_of_mem hq)⟩
  · have hl' := lv _ _ hl
    obtain ⟨L', m', news', F', N', k⟩ := hl
    refine hl' fun hq b o e => ?_
    by_cases hb : b ∈ lit.map (·.1)
    · obtain ⟨q, hm, rfl⟩ := List.mem_map.mp hb
      have := (N q hm).1
      rw [e] at this
      cases this
      exact hq q hm
    · exact F'.keep b o (hideAll_get _ e hb)
end

theorem rmk0 {dp n : Nat} (h : dp + n < 1000) : dp < 1000 := Nat.lt_of_le_of_lt (Nat.le_add_right _ _) h
theorem rmk1 {dp n k : Nat} (h : dp + n < 1000) (e : 1 + k ≤ n) : dp + 1 + k < 1000 := by omega
theorem rmk2 {dp n k : Nat} (h : dp + n < 1000) (e : 2 + k ≤ n) : dp + 1 + 1 + k < 1000 := by omega
theorem rmk3 {dp n k : Nat} (h : dp + n < 1000) (e : 3 + k ≤ n) : dp + 1 + 1 + 1 + k < 1000 := by omega
theorem rmk4 {dp n k : Nat} (h : dp + n < 1000) (e : 4 + k ≤ n) : dp + 1 + 1 + 1 + 1 + k < 1000 := by omega
theorem rmk {dp n : Nat} (h : dp + n < 1000) (e : 1 ≤ n) : dp + 1 < 1000 := by omega
theorem fmc {α : Type} {p : α → Prop} {a : α} {l : List α} (h1 : p a) (h2 : ∀ x ∈ l, p x) : ∀ x ∈ a :: l, p x := List.forall_mem_cons.mpr ⟨h1, h2⟩
/-- expression trees of the laws' units -/
inductive Bop | add | sub | mul | div
noncomputable def Bop.word : Bop → String
  | .add => "add" | .sub => "sub" | .mul => "mul" | .div => "div"
noncomputable def Bop.sym : Bop → String
  | .add => "+" | .sub => "-" | .mul => "*" | .div => "/"
inductive Var | I | J | K | D | W | M
noncomputable def Var.name : Var → String
  | .I => "I" | .J => "J" | .K => "K" | .D => "D" | .W => "W" | .M => "M"
inductive Ex where
  | int (n : Int)
  | var (x : Var)
  | bin (o : Bop) (l r : Ex)
structure St where
  I : Int
  J : Int
  K : Int
  D : Int
  W : Int
  M : Int
noncomputable def St.get (e : St) : Var → Int
  | .I => e.I | .J => e.J | .K => e.K | .D => e.D | .W => e.W | .M => e.M
noncomputable def Bop.eval : Bop → Int → Int → Int
  | .add, x, y => x + y
  | .sub, x, y => x - y
  | .mul, x, y => x * y
  | .div, x, y => x.tdiv y
noncomputable def Ex.eval (e : St) : Ex → Int
  | .int n => n
  | .var x => e.get x
  | .bin o l r => o.eval (l.eval e) (r.eval e)
noncomputable def Fit (n : Int) : Prop := -2147483648 ≤ n ∧ n < 2147483648
noncomputable def Bop.Fits (o : Bop) (x y : Int) : Prop := Fit x ∧ Fit y ∧ Fit (o.eval x y) ∧ (match o with | .div => 0 < y ∧ y < 100000 | _ => True)
noncomputable def Ex.Fits (e : St) : Ex → Prop
  | .int _ => True
  | .var _ => True
  | .bin o l r => l.Fits e ∧ r.Fits e ∧ o.Fits (l.eval e) (r.eval e)
noncomputable def Ex.depth : Ex → Nat
  | .int _ => 0
  | .var _ => 0
  | .bin _ l r => max l.depth r.depth + 1
/-- the heap bears the tree at v -/
inductive ExAt (h : Heap) : Value → Ex → Prop
  | int {a : Addr} {t1 t2 t3 : Tok} {n : Int} : h.get? a = some (tup [.str (Str.ofString "const") t1, .int 0 t2, .int n t3]) → ExAt h (.ref a) (.int n)
  | var {a : Addr} {t1 t2 t3 : Tok} {x : Var} : h.get? a = some (tup [.str (Str.ofString "var") t1, .int 0 t2, .str (Str.ofString x.name) t3]) → ExAt h (.ref a) (.var x)
  | bin {a : Addr} {t1 t2 : Tok} {o : Bop} {u v : Value} {l r : Ex} : h.get? a = some (tup [.str (Str.ofString o.word) t1, .int 0 t2, u, v]) → ExAt h u l → ExAt h v r → ExAt h (.ref a) (.bin o l r)
theorem ExAt.keeps {h h' : Heap} (k : ∀ b o, h.get? b = some o → h'.get? b = some o) {v : Value} {e : Ex} (x : ExAt h v e) : ExAt h' v e := by
  induction x with
  | int q => exact .int (k _ _ q)
  | var q => exact .var (k _ _ q)
  | bin q _ _ a b => exact .bin (k _ _ q) a b
/-- does the object begin with a text? -/
noncomputable def leads (o : Obj) : Bool := match o.data with
  | .seq vs _ => (match vs.toList with | .str _ _ :: _ => true | _ => false)
  | _ => false
theorem leads_dict {prog : Program} {w : World} {K : Type} [DecidableEq K] {knd : KeyKind prog w K} {o : Obj} {kvs : List (K × Value)} (h : o.IsDictOf knd kvs) : leads o = false := by
  obtain ⟨es, n, h1, h2, h3, _⟩ := h
  unfold leads
  first | rw [h1] | rw [h2] | rw [h3]
theorem not_in {h₀ : Heap} {L : Addr} {h : Heap} {lit : List (Addr × Obj)} (N : News h₀ L h lit) {x : Addr} {o : Obj} (hx : h.get? x = some o) (ho : leads o = true) (hn : ∀ p ∈ lit, leads p.2 = false) : x ∉ lit.map (·.1) := by
  intro hm
  obtain ⟨q, hq, rfl⟩ := List.mem_map.mp hm
  have := (N q hq).1
  rw [hx] at this
  cases this
  rw [hn q hq] at ho
  cases ho
section
variable {prog : Program} {w : World} {A : Around} {E : Value → Shared → Prop} {s : Shared} {h₀ : Heap} {L a : Addr} {m : Str → Option Value} {cn : Str} {cs : Scope} {ccd : Value} {cl : List (Str × Addr)} {x : Str} {xp pos : Pos} {v : Value} {rest : List PySem.Expr}
theorem foldP {P : Prop} (h : let p := P; p) : P := h
theorem fold9 {α : Type} {x : Sem α} {Q : α → Shared → Prop} (h : let q := Q; let e := E; wpAny (model prog w) A x q e s) : wpAny (model prog w) A x Q E s := h
theorem storeX_any {news : List (Addr × Obj)} {Q : Unit → Shared → Prop} (F : Fr h₀ L s.heap m) (N : News h₀ L s.heap news)
    (h : ∀ h' tk, Fr h₀ L h' (fun y => if y = x then some v else m y) → News h₀ L h' news → Q () { s with heap := h', toks := tk })
    (hk : cs.kind = .function) (hx : (envX cn cs L a ccd cl).kindOf x = some .local) : wpAny (model prog w) A (storeName (envX cn cs L a ccd cl) x v) Q E s := storeX_L F N (fun h' => h h' _) hk hx
theorem args_loc {Q : List Value → Shared → Prop} (F : Fr h₀ L s.heap m) (hv : m x = some v) (hk : cs.kind = .function) (hx : (envX cn cs L a ccd cl).kindOf x = some .local) (hd : (x == ("__debug__" : Str)) = false)
    (h : wpAny (model prog w) A (spliced (backTo pos (starEach rest (envX cn cs L a ccd cl)))) (fun vs s₂ => Q (v :: vs) s₂) E s) :
    wpAny (model prog w) A (spliced (backTo pos (starEach (.Name x xp :: rest) (envX cn cs L a ccd cl)))) Q E s := args_cons (nameX_L F hv h hk hx hd)
theorem args_int {env : Env} {i : Int} {k : Nat} {Q : List Value → Shared → Prop}
    (h : wpAny (model prog w) A (spliced (backTo pos (starEach rest env))) (fun vs s₂ => Q (.int i s.toks :: vs) s₂) E { s with toks := s.toks + 1 }) :
    wpAny (model prog w) A (spliced (backTo pos (starEach (.Constant (.int i) k xp :: rest) env))) Q E s := args_cons (wpAny_Constant_int h)
theorem args_str {env : Env} {i : Str} {k : Nat} {Q : List Value → Shared → Prop}
    (h : wpAny (model prog w) A (spliced (backTo pos (starEach rest env))) (fun vs s₂ => Q (.str i s.toks :: vs) s₂) E { s with toks := s.toks + 1 }) :
    wpAny (model prog w) A (spliced (backTo pos (starEach (.Constant (.str i) k xp :: rest) env))) Q E s := args_cons (Calls.Constant_str h)
theorem attr_loc {attr : Str} {Q : Value → Shared → Prop} (F : Fr h₀ L s.heap m) (hv : m x = some v) (hk : cs.kind = .function) (hx : (envX cn cs L a ccd cl).kindOf x = some .local) (hd : (x == ("__debug__" : Str)) = false)
    (h : wpAny (model prog w) A (getAttr v attr true) Q E s) :
    wpAny (model prog w) A (eval (.Attribute (.Name x xp) attr pos) (envX cn cs L a ccd cl)) Q E s := Attribute_Name_ (nameX_L F hv h hk hx hd)
theorem sub_loc {slice : PySem.Expr} {Q : Value → Shared → Prop} (F : Fr h₀ L s.heap m) (hv : m x = some v) (hk : cs.kind = .function) (hx : (envX cn cs L a ccd cl).kindOf x = some .local) (hd : (x == ("__debug__" : Str)) = false)
    (h : wpAny (model prog w) A (eval slice (envX cn cs L a ccd cl)) (fun i s₂ => wpAny (model prog w) A (subscriptTail (.Name x xp) slice v i) Q E s₂) E s) :
    wpAny (model prog w) A (eval (.Subscript (.Name x xp) slice pos) (envX cn cs L a ccd cl)) Q E s := Subscript_ (nameX_L F hv h hk hx hd)
theorem sub_loc_int {i : Int} {k : Nat} {kp : Pos} {Q : Value → Shared → Prop} (F : Fr h₀ L s.heap m) (hv : m x = some v) (hk : cs.kind = .function) (hx : (envX cn cs L a ccd cl).kindOf x = some .local) (hd : (x == ("__debug__" : Str)) = false)
    (h : wpAny (model prog w) A (subscriptTail (.Name x xp) (.Constant (.int i) k kp) v (.int i s.toks)) Q E { s with toks := s.toks + 1 }) :
    wpAny (model prog w) A (eval (.Subscript (.Name x xp) (.Constant (.int i) k kp) pos) (envX cn cs L a ccd cl)) Q E s := sub_loc F hv hk hx hd (wpAny_Constant_int h)
end
-- part A2
noncomputable abbrev ent (w : World) (x : String) (t : Tok) (v : Value) : DictEntry := { hash := PyData.keyHash w.params (Str.ofString x), key := .str (Str.ofString x) t, val := v }
/-- the table of expressions -/
noncomputable abbrev exKvs : List (Str × Value) := [(Str.ofString "const", .ref 374), (Str.ofString "var", .ref 381), (Str.ofString "elem", .ref 381),
  (Str.ofString "add", .ref 395), (Str.ofString "sub", .ref 395), (Str.ofString "mul", .ref 395), (Str.ofString "div", .ref 395), (Str.ofString "pow", .ref 395), (Str.ofString "powi", .ref 395), (Str.ofString "and", .ref 395), (Str.ofString "or", .ref 395), (Str.ofString "eqv", .ref 395), (Str.ofString "neqv", .ref 395),
  (Str.ofString "eq", .ref 402), (Str.ofString "ne", .ref 402), (Str.ofString "lt", .ref 402), (Str.ofString "le", .ref 402), (Str.ofString "gt", .ref 402), (Str.ofString "ge", .ref 402)]
noncomputable abbrev opKvs : List (Int × Value) := [(0, .ref 292)]
noncomputable abbrev frKvs (p : Var → Addr) : List (Str × Value) := [(Str.ofString "I", .ref (p .I)), (Str.ofString "J", .ref (p .J)), (Str.ofString "K", .ref (p .K)), (Str.ofString "D", .ref (p .D)), (Str.ofString "W", .ref (p .W)), (Str.ofString "M", .ref (p .M))]
noncomputable def Var.idx : Var → Int
  | .I => 0 | .J => 1 | .K => 2 | .D => 3 | .W => 4 | .M => 5
set_option genInjectivity false in
/-- the run's world: addresses, tokens, values that do not matter -/
structure Rw where
  (run dr mem dm nums lim dl ex ope fra : Addr)
  (oex oope ofra : Obj)
  (uni wor sta dep ste pla flo cle act loo lib cha : Value)
  (k0 k1 k2 k3 k4 k5 k6 k7 k8 k9 k10 k11 k12 k13 k14 k15 kn kc : Tok)
  (l0 l1 l2 l3 l4 l5 l6 l7 lw : Tok)
  (m1 m2 m3 m4 m5 m6 m7 : Value)
  (p c : Var → Addr)
  (u : Var → Value)
  (ta tb tc td te : Var → Tok)
  (nn : Nat)
/-- its ledger; the part with one name's place and cell -/
noncomputable abbrev runD (w : World) (r : Rw) : Obj := dictOf [ent w "memory" r.k0 (.ref r.mem), ent w "limits" r.k1 (.ref r.lim), ent w "units" r.k2 r.uni, ent w "world" r.k3 r.wor, ent w "expressions" r.k4 (.ref r.ex), ent w "statements" r.k5 r.sta, ent w "frame" r.k6 (.ref r.fra), ent w "depth" r.k7 r.dep, ent w "steps" r.k8 r.ste, ent w "places" r.k9 r.pla, ent w "flows" r.k10 r.flo, ent w "clears" r.k11 r.cle, ent w "active" r.k12 r.act, ent w "loops" r.k13 r.loo, ent w "operations" r.k14 (.ref r.ope), ent w "library" r.k15 r.lib] 16
noncomputable abbrev memD (w : World) (r : Rw) : Obj := dictOf [ent w "numeric" r.kn (.ref r.nums), ent w "characters" r.kc r.cha] 2
noncomputable abbrev numsL (r : Rw) : Obj := lstN [.ref (r.c .I), .ref (r.c .J), .ref (r.c .K), .ref (r.c .D), .ref (r.c .W), .ref (r.c .M)] r.nn
noncomputable abbrev limD (w : World) (r : Rw) : Obj := dictOf [ent w "width" r.l0 (.int 32 r.lw), ent w "real_digits" r.l1 r.m1, ent w "double_digits" r.l2 r.m2, ent w "top_exponent" r.l3 r.m3, ent w "steps" r.l4 r.m4, ent w "continuations" r.l5 r.m5, ent w "columns" r.l6 r.m6, ent w "depth" r.l7 r.m7] 8
noncomputable abbrev plc (r : Rw) (x : Var) (i : Int) : Obj := tup [.int 0 (r.ta x), .int i (r.tb x), .int 0 (r.tc x), r.u x]
noncomputable abbrev cel (r : Rw) (x : Var) (v : Int) : Obj := tup [.int 0 (r.td x), .int v (r.te x)]
noncomputable abbrev lit (w : World) (e : St) (r : Rw) : List (Addr × Obj) := [
  (r.run, instObj 330 r.dr), (r.dr, runD w r), (r.ex, r.oex), (r.ope, r.oope), (r.fra, r.ofra),
  (r.mem, instObj 141 r.dm), (r.dm, memD w r), (r.nums, numsL r), (r.lim, instObj 677 r.dl), (r.dl, limD w r),
  (r.p .I, plc r .I 0), (r.c .I, cel r .I e.I),
  (r.p .J, plc r .J 1), (r.c .J, cel r .J e.J),
  (r.p .K, plc r .K 2), (r.c .K, cel r .K e.K),
  (r.p .D, plc r .D 3), (r.c .D, cel r .D e.D),
  (r.p .W, plc r .W 4), (r.c .W, cel r .W e.W),
  (r.p .M, plc r .M 5), (r.c .M, cel r .M e.M)]
noncomputable abbrev litx (w : World) (e : St) (r : Rw) (x : Var) : List (Addr × Obj) := [
  (r.run, instObj 330 r.dr), (r.dr, runD w r), (r.ex, r.oex), (r.ope, r.oope), (r.fra, r.ofra),
  (r.mem, instObj 141 r.dm), (r.dm, memD w r), (r.nums, numsL r), (r.lim, instObj 677 r.dl), (r.dl, limD w r),
  (r.p x, plc r x x.idx), (r.c x, cel r x (e.get x))]
noncomputable abbrev lit0 (w : World) (r : Rw) : List (Addr × Obj) := [
  (r.run, instObj 330 r.dr), (r.dr, runD w r), (r.ex, r.oex), (r.ope, r.oope), (r.fra, r.ofra),
  (r.mem, instObj 141 r.dm), (r.dm, memD w r), (r.nums, numsL r), (r.lim, instObj 677 r.dl), (r.dl, limD w r)]
theorem lit0_sub (w : World) (e : St) (r : Rw) : ∀ q ∈ lit0 w r, q ∈ lit w e r := fun q hq => by
  have h : lit w e r = lit0 w r ++ (lit w e r).drop 10 := rfl
  rw [h]; exact List.mem_append_left _ hq
noncomputable abbrev litV (e : St) (r : Rw) : List (Addr × Obj) := [(r.p .I, plc r .I 0), (r.c .I, cel r .I e.I), (r.p .J, plc r .J 1), (r.c .J, cel r .J e.J), (r.p .K, plc r .K 2), (r.c .K, cel r .K e.K), (r.p .D, plc r .D 3), (r.c .D, cel r .D e.D), (r.p .W, plc r .W 4), (r.c .W, cel r .W e.W), (r.p .M, plc r .M 5), (r.c .M, cel r .M e.M)]
theorem litV_at (e : St) (r : Rw) (x : Var) : ∀ q ∈ [(r.p x, plc r x x.idx), (r.c x, cel r x (e.get x))], q ∈ litV e r := by
  refine fmc ?_ (fmc ?_ (List.forall_mem_nil _)) <;> cases x
  all_goals repeat (first | exact List.Mem.head _ | refine List.Mem.tail _ ?_)
theorem litx_sub (w : World) (e : St) (r : Rw) (x : Var) : ∀ q ∈ litx w e r x, q ∈ lit w e r := fun q hq => by
  have h1 : lit w e r = lit0 w r ++ litV e r := rfl
  have h2 : litx w e r x = lit0 w r ++ [(r.p x, plc r x x.idx), (r.c x, cel r x (e.get x))] := rfl
  rw [h2] at hq
  rw [h1]
  rcases List.mem_append.mp hq with h | h
  · exact List.mem_append_left _ h
  · exact List.mem_append_right _ (litV_at e r x q h)
structure Rok (w : World) (r : Rw) : Prop where
  e : r.oex.IsDictOf (PySem.strKind PySem.Challenge.rw_zu0017_01.row.prog w) exKvs
  el : (r.ex == sysModules) = false
  o : r.oope.IsDictOf (PySem.intKind PySem.Challenge.rw_zu0017_01.row.prog w) opKvs
  ol : (r.ope == sysModules) = false
  f : r.ofra.IsDictOf (PySem.strKind PySem.Challenge.rw_zu0017_01.row.prog w) (frKvs r.p)
  fl : (r.fra == sysModules) = false
theorem lit_leads {w : World} {e : St} {r : Rw} (h : Rok w r) : ∀ p ∈ lit w e r, leads p.2 = false :=
  fmc rfl (fmc rfl (fmc (leads_dict h.e) (fmc (leads_dict h.o) (fmc (leads_dict h.f) (fmc rfl (fmc rfl (fmc rfl (fmc rfl (fmc rfl (fmc rfl (fmc rfl (fmc rfl (fmc rfl (fmc rfl (fmc rfl (fmc rfl (fmc rfl (fmc rfl (fmc rfl (fmc rfl (fmc rfl (List.forall_mem_nil _))))))))))))))))))))))
/-- the ground on which a call stands -/
structure Cx (w : World) (loose : List Str) (mean : ExcName → Option Value) (mg mb : Str → Option Value) (dp un : Nat) (gd : Option (List Code)) (cn : Str) (cs : Scope) (a : Addr) (ccd : Value) (cl : List (Str × Addr)) (outer : List Env) (A₀ : Around) (base h₀ : Heap) (L : Addr) (m : Str → Option Value) (s : Shared) : Prop where
  B : Below A₀ base outer h₀
  F : Fr h₀ L s.heap m
  X : (Mine.hd.heap_1_39 w.params).In h₀
  T : Top Mine.hd.view_1_40 loose mean mg mb h₀
  k : cs.kind = .function
/-- a call that makes things but turns none -/
noncomputable def Does (w : World) (f : Addr) (nd : Nat) (vs : List Value) (s : Shared) (lit : List (Addr × Obj)) (P : Heap → Value → Prop) : Prop :=
  ∀ (loose : List Str) (mean : ExcName → Option Value) (mg mb : Str → Option Value) (dp un : Nat) (gd : Option (List Code)) (cn : Str) (cs : Scope) (a : Addr) (ccd : Value) (cl : List (Str × Addr)) (outer : List Env) (A₀ : Around) (base h₀ : Heap) (L : Addr) (m : Str → Option Value) (Q E : Value → Shared → Prop),
    Cx w loose mean mg mb dp un gd cn cs a ccd cl outer A₀ base h₀ L m s → News h₀ L s.heap lit → dp + nd < 1000 →
    (∀ v h' tk', (∀ b o, s.heap.get? b = some o → h'.get? b = some o) → P h' v → Q v { s with heap := h', toks := tk' }) →
    wpAny (model PySem.Challenge.rw_zu0017_01.row.prog w) (ktrTop dp un gd cn cs L a ccd cl outer) (call (.ref f) vs) Q E s
theorem Does.use {w : World} {f : Addr} {nd : Nat} {vs : List Value} {s : Shared} {lt news : List (Addr × Obj)} {P : Heap → Value → Prop}
    {loose : List Str} {mean : ExcName → Option Value} {mg mb : Str → Option Value} {dp un : Nat} {gd : Option (List Code)} {cn : Str} {cs : Scope} {a : Addr} {ccd : Value} {cl : List (Str × Addr)} {outer : List Env} {A₀ : Around} {base h₀ : Heap} {L : Addr} {m : Str → Option Value} {Q E : Value → Shared → Prop}
    (B : Below A₀ base outer h₀) (F : Fr h₀ L s.heap m) (X : (Mine.hd.heap_1_39 w.params).In h₀) (T : Top Mine.hd.view_1_40 loose mean mg mb h₀) (k : cs.kind = .function) (N : News h₀ L s.heap news)
    (D : Does w f nd vs s lt P) (sub : ∀ q ∈ lt, q ∈ news) (hd : dp + nd < 1000)
    (ret : ∀ v h' tk', Fr h₀ L h' m → News h₀ L h' news → (∀ b o, s.heap.get? b = some o → h'.get? b = some o) → P h' v → Q v { s with heap := h', toks := tk' }) :
    wpAny (model PySem.Challenge.rw_zu0017_01.row.prog w) (ktrTop dp un gd cn cs L a ccd cl outer) (call (.ref f) vs) Q E s :=
  D _ _ _ _ _ _ _ _ _ _ _ _ _ _ _ _ _ _ _ _ ⟨B, F, X, T, k⟩ (fun q hq => N q (sub q hq)) hd fun v h' tk' kp hp => ret v h' tk' (F.keeps kp) (fun q hq => ⟨kp _ _ (N q hq).1, (N q hq).2⟩) kp hp
theorem keepAll {s : Shared} {g h₀ : Heap} {L : Addr} {lt : List (Addr × Obj)} (hg : ∀ b o, s.heap.get? b = some o → b ∉ lt.map (·.1) → g.get? b = some o) (N : News h₀ L s.heap lt) :
    ∀ h' : Heap, (∀ b o, g.get? b = some o → h'.get? b = some o) → (∀ q ∈ lt, h'.get? q.1 = some q.2) → ∀ b o, s.heap.get? b = some o → h'.get? b = some o := by
  intro h' h1 h2 b o e
  by_cases hb : b ∈ lt.map (·.1)
  · obtain ⟨q, hm, rfl⟩ := List.mem_map.mp hb
    have := (N q hm).1
    rw [e] at this
    cases this
    exact h2 q hm
  · exact h1 b o (hg b o e hb)
theorem Does.mono {w : World} {f : Addr} {nd nd' : Nat} {vs : List Value} {s : Shared} {lt lt' : List (Addr × Obj)} {P : Heap → Value → Prop} (D : Does w f nd vs s lt P) (h : nd ≤ nd') (sub : ∀ q ∈ lt, q ∈ lt') : Does w f nd' vs s lt' P := by
  intro loose mean mg mb dp un gd cn cs a ccd cl outer A₀ base h₀ L m Q E C N hd hret
  exact D loose mean mg mb dp un gd cn cs a ccd cl outer A₀ base h₀ L m Q E C (fun q hq => N q (sub q hq)) (by omega) hret
theorem Var.idx0 (x : Var) : 0 ≤ x.idx := by cases x <;> decide
theorem Var.idx6 (x : Var) : x.idx < 6 := by cases x <;> decide
theorem Var.idx63 (x : Var) : x.idx < 2 ^ 63 := Int.lt_trans x.idx6 (by decide)
theorem fr_at (p : Var → Addr) (x : Var) : valueAt (frKvs p) (Str.ofString x.name) = some (.ref (p x)) := by cases x <;> rfl
theorem num_at (c : Var → Addr) (x : Var) : [Value.ref (c .I), .ref (c .J), .ref (c .K), .ref (c .D), .ref (c .W), .ref (c .M)][x.idx.toNat]? = some (.ref (c x)) := by cases x <;> rfl
theorem cell_item {prog : Program} {w : World} {A : Around} {E : Value → Shared → Prop} {s : Shared} {value slice : PySem.Expr} {h₀ : Heap} {L l : Addr} {news : List (Addr × Obj)} {its : List Value} {n : Nat} {k : Int} {u : Tok} {v : Value} {Q : Value → Shared → Prop}
    (N : News h₀ L s.heap news) (hm : (l, lstN its n) ∈ news) (h0 : 0 ≤ k) (hhi : k < 2 ^ 63) (hx : its[k.toNat]? = some v) (h : Q v s)
    (hs : subscripted slice false (.ref l) (.int k u) = operate [.ref l, .int k u] (getItem (.ref l) (.int k u))) :
    wpAny (model prog w) A (subscriptTail value slice (.ref l) (.int k u)) Q E s := by
  have hl : s.heap.IsList l its.toArray := ⟨_, (N _ hm).1, rfl, n, rfl⟩
  exact tail_any hl.typeIs slot_list_getitem.lookup (wpAny_getItem_list hl h0 hhi (by simpa using hx) h) hs
theorem sub_nil {news : List (Addr × Obj)} : ∀ q ∈ ([] : List (Addr × Obj)), q ∈ news := fun _ h => nomatch h
theorem sub_cons {q : Addr × Obj} {l news : List (Addr × Obj)} (h : q ∈ news) (t : ∀ q ∈ l, q ∈ news) : ∀ p ∈ q :: l, p ∈ news := fun p hp => by
  rcases List.mem_cons.mp hp with rfl | hp
  · exact h
  · exact t p hp
local macro_rules | `(tactic| k_room) => `(tactic| k_extra "k_room")
local macro_rules | `(tactic| k_mem) => `(tactic| k_extra "k_mem")
local macro_rules | `(tactic| tb_start) => `(tactic| k_extra "tb_start")
local macro_rules | `(tactic| tb_rel) => `(tactic| k_extra "tb_rel")
local macro_rules | `(tactic| k_upd) => `(tactic| k_extra "k_upd")
local macro_rules | `(tactic| k_lt $_) => `(tactic| k_extra "k_lt")
local macro_rules | `(tactic| k_lt2 $_) => `(tactic| k_extra "k_lt2")
local macro_rules | `(tactic| k_in) => `(tactic| k_extra "k_in")
local macro_rules | `(tactic| k_ne) => `(tactic| k_extra "k_ne")
local macro_rules | `(tactic| k_all) => `(tactic| k_extra "k_all")
local macro_rules | `(tactic| walk_at "binaryOp LShift int int") => `(tactic| k_extra "binaryOp LShift int int")
local macro_rules | `(tactic| walk_at "CompRestP") => `(tactic| k_extra "CompRestP")
theorem rows_A : True := by
  k_with_none
  k_with "k_room" => (((try simp only [depth_mark, depth_under_make, depth_under_kw, depth_in1, depth_deeper, depth_caller]); (try dsimp only [ktrTop]); (try simp only [recursionLimit]); (first | exact rmk (by assumption) (by exact Nat.le_of_ble_eq_true rfl) | exact rmk1 (by assumption) (by exact Nat.le_of_ble_eq_true rfl) | exact rmk2 (by assumption) (by exact Nat.le_of_ble_eq_true rfl) | exact rmk3 (by assumption) (by exact Nat.le_of_ble_eq_true rfl) | exact rmk4 (by assumption) (by exact Nat.le_of_ble_eq_true rfl) | exact rmk0 (by assumption) | omega)))
  k_with "k_mem" => ((change (_ ∈ (_ : List (Addr × Obj))); ktr_member))
  k_with "k_mem" => (((change (_ ∈ ((_ ++ _) : List (Addr × Obj)))); first | (refine List.mem_append.mpr (Or.inl ?_); k_mem) | (refine List.mem_append.mpr (Or.inr ?_); k_mem)))
  k_with "binaryOp LShift int int" => (((refine lshift_int_small (by decide) (by decide) (by decide) ?_); rw [show ((1:Int) * 2 ^ ((32:Int) - 1).toNat) = 2147483648 from rfl]))
  trivial
-- part A3
set_option maxHeartbeats 8000000 in
theorem place_ok (w : World) (e : St) (r : Rw) (ok : Rok w r) (x : Var) (s : Shared) {x0 : Addr} {t1 t2 t3 : Tok} (ht : s.heap.get? x0 = some (tup [.str (Str.ofString "var") t1, .int 0 t2, .str (Str.ofString x.name) t3])) :
    Does w 367 6 [.ref r.run, .ref x0] s (litx w e r x) (fun _ v => v = .ref (r.p x)) := by
  intro loose mean mg mb dp un gd cn cs a ccd cl outer A₀ base h₀ L m Q E C N hd hret
  have hl := lit_leads (e := e) ok
  have ⟨oke, okel, oko, okol, okf, okfl⟩ := ok
  replace hl := fun q hq => hl q (litx_sub w e r x q hq)
  dsimp only [litx] at N hl
  w_top off
  have X0 := C.X; revert X0; k_fill; intro X0
  (refine wpAny_call ?_; k_dflt (refine' enterC _ ?k1 ?k2 ?k3 ?k4 ?k5 ?kA ?kF ?kK ?k6 ?k7 ?k8 ?k9 ?kB ?kD ?_ ?c2 ?c3 ?c4; (case kA => exact rfl); (case kF => exact rfl); (case kK => exact Cx.k (by assumption)); (case k1 => exact Cx.B (by assumption)); (case k2 => exact Cx.F (by assumption)); (case k3 => exact Cx.X (by assumption)); (case k4 => assumption); (case k5 => exact Cx.T (by assumption)); (case k6 => k_is); (case k7 => k_is); (case k8 => k_room); (case k9 => exact BindsTo.of_eq rfl); (case kB => exact rfl); (case kD => decide +kernel); (case c2 => exact rfl); (case c3 => exact rfl); (case c4 => exact rfl); k_whole))
  intro g' L' h' tk' cells' hg FG' F' N' Y' B' X' T' l1
  have hx := hg _ _ ht (not_in N ht rfl hl)
  have h9 : IsTup g' x0 #[.str (Str.ofString "var") t1, .int 0 t2, .str (Str.ofString x.name) t3] := ⟨_, hx, rfl, 0, rfl⟩
  have hK := keepAll hg N
  clear hg hl N
  (try k_lt l1)
  k_cells Y'
  (try simp only [List.cons_append, List.nil_append] at N')
  (try dsimp only)
  (with_reducible show wpAny _ _ _ _ _ _)
  k_fold
  k_with_none
  k_with "k_room" => (((try simp only [depth_mark, depth_under_make, depth_under_kw, depth_in1, depth_deeper, depth_caller]); (try dsimp only [ktrTop]); (try simp only [recursionLimit]); (first | exact rmk (by assumption) (by exact Nat.le_of_ble_eq_true rfl) | exact rmk1 (by assumption) (by exact Nat.le_of_ble_eq_true rfl) | exact rmk2 (by assumption) (by exact Nat.le_of_ble_eq_true rfl) | exact rmk3 (by assumption) (by exact Nat.le_of_ble_eq_true rfl) | exact rmk4 (by assumption) (by exact Nat.le_of_ble_eq_true rfl) | exact rmk0 (by assumption) | omega)))
  k_with "k_mem" => ((change (_ ∈ (_ : List (Addr × Obj))); ktr_member))
  k_with "k_mem" => (((change (_ ∈ ((_ ++ _) : List (Addr × Obj)))); first | (refine List.mem_append.mpr (Or.inl ?_); k_mem) | (refine List.mem_append.mpr (Or.inr ?_); k_mem)))
  k_with "binaryOp LShift int int" => (((refine lshift_int_small (by decide) (by decide) (by decide) ?_); rw [show ((1:Int) * 2 ^ ((32:Int) - 1).toNat) = 2147483648 from rfl]))
  k_with "storeName" => (k_dflt (refine' storeX_any ?F ?N ?_ ?a ?b; (case F => k_asm); (case N => k_asm); (case a => rfl); (case b => rfl); k_whole); intro h' tk' F' N'; (try k_sweep))
  k_with "eval Call Name cons nil" => (refine Call_ ?_)
  k_with "eval Call Attribute cons nil" => (refine MethodCall_ ?_)
  k_with "spliced" => (first | ((with_reducible show wpAny _ _ (spliced (backTo _ (starEach (PySem.Expr.Name _ _ :: _) _))) _ _ _); k_dflt (refine' args_loc ?F ?v ?a ?b ?c ?_; (case F => k_asm); (case a => rfl); (case b => rfl); (case v => rfl); (case c => decide))) | ((with_reducible show wpAny _ _ (spliced (backTo _ (starEach (PySem.Expr.Constant (Const.int _) _ _ :: _) _))) _ _ _); refine args_int ?_) | ((with_reducible show wpAny _ _ (spliced (backTo _ (starEach (PySem.Expr.Constant (Const.str _) _ _ :: _) _))) _ _ _); refine args_str ?_))
  k_with "eval Attribute Name" => (k_dflt (refine' attr_loc ?F ?v ?a ?b ?c ?_; (case F => k_asm); (case a => rfl); (case b => rfl); (case v => rfl); (case c => decide)))
  k_with "eval Subscript" => (first | ((with_reducible show wpAny _ _ (eval (PySem.Expr.Subscript (PySem.Expr.Name _ _) (PySem.Expr.Constant (Const.int _) _ _) _) _) _ _ _); k_dflt (refine' sub_loc_int ?F ?v ?a ?b ?c ?_; (case F => k_asm); (case a => rfl); (case b => rfl); (case v => rfl); (case c => decide))) | ((with_reducible show wpAny _ _ (eval (PySem.Expr.Subscript (PySem.Expr.Name _ _) _ _) _) _ _ _); k_dflt (refine' sub_loc ?F ?v ?a ?b ?c ?_; (case F => k_asm); (case a => rfl); (case b => rfl); (case v => rfl); (case c => decide))))
  k_with "subscriptTail Name Constant ref int" => (k_dflt (refine item_tupleT (IsTup.keeps (by assumption) (Fr.keep (by k_asm))) (by decide) (by decide) rfl rfl ?_))
  k_with "call builtin:dict.get" => (k_dflt (refine kdg_get1 (knd := PySem.strKind _ _) (by k_asm) (by k_mem) okf (by k_asm) (strKind_is _ _ _ _) (some (.ref (r.p x))) (fr_at r.p x) ?_); (try dsimp only [Option.getD]))
  repeat (first | (k_unfold; (try dsimp only)) | (k_end; wrow_close) | walk1 | (dsimp only; walk1) | (leave1; (try dsimp only)) | fail "no step")
  refine fun H => hret _ _ _ (H fun q hq => ((by k_asm : News h₀ L _ _) q (by first | exact hq | exact .tail _ hq | exact .tail _ (.tail _ hq) | exact .tail _ (.tail _ (.tail _ hq)))).1) rfl
-- part T10j
set_option maxHeartbeats 8000000 in
theorem load_ok (w : World) (e : St) (r : Rw) (ok : Rok w r) (x : Var) (s : Shared) :
    Does w 124 8 [.ref r.mem, .ref (r.p x)] s (litx w e r x) (fun _ v => ∃ t, v = .int (e.get x) t) := by
  have hi1 := x.idx0
  have hi2 := x.idx6
  intro loose mean mg mb dp un gd cn cs a ccd cl outer A₀ base h₀ L m Q E C N hd hret
  dsimp only [litx] at N
  w_top off
  have X0 := C.X; revert X0; k_fill; intro X0
  (refine wpAny_call ?_; k_dflt (refine' enter _ ?k1 ?k2 ?k3 ?k4 ?k5 ?kA ?kF ?kK ?k6 ?k7 ?k8 ?k9 ?kB ?_ ?c2 ?c3 ?c4 ?c5; (case kA => exact rfl); (case kF => exact rfl); (case kK => exact Cx.k (by assumption)); (case k1 => exact Cx.B (by assumption)); (case k2 => exact Cx.F (by assumption)); (case k3 => exact Cx.X (by assumption)); (case k4 => assumption); (case k5 => exact Cx.T (by assumption)); (case k6 => k_is); (case k7 => k_is); (case k8 => k_room); (case k9 => exact BindsTo.of_eq rfl); (case c5 => decide); (case kB => exact locs rfl); (case c2 => exact rfl); (case c3 => exact rfl); (case c4 => exact rfl); k_whole))
  intro g' L' h' hg FG' F' N' B' X' T'
  clear hg N
  (try dsimp only)
  (with_reducible show wpAny _ _ _ _ _ _)
  k_fold
  k_with_none
  k_with "k_room" => (((try simp only [depth_mark, depth_under_make, depth_under_kw, depth_in1, depth_deeper, depth_caller]); (try dsimp only [ktrTop]); (try simp only [recursionLimit]); (first | exact rmk (by assumption) (by exact Nat.le_of_ble_eq_true rfl) | exact rmk1 (by assumption) (by exact Nat.le_of_ble_eq_true rfl) | exact rmk2 (by assumption) (by exact Nat.le_of_ble_eq_true rfl) | exact rmk3 (by assumption) (by exact Nat.le_of_ble_eq_true rfl) | exact rmk4 (by assumption) (by exact Nat.le_of_ble_eq_true rfl) | exact rmk0 (by assumption) | omega)))
  k_with "k_mem" => ((change (_ ∈ (_ : List (Addr × Obj))); ktr_member))
  k_with "k_mem" => (((change (_ ∈ ((_ ++ _) : List (Addr × Obj)))); first | (refine List.mem_append.mpr (Or.inl ?_); k_mem) | (refine List.mem_append.mpr (Or.inr ?_); k_mem)))
  k_with "binaryOp LShift int int" => (((refine lshift_int_small (by decide) (by decide) (by decide) ?_); rw [show ((1:Int) * 2 ^ ((32:Int) - 1).toNat) = 2147483648 from rfl]))
  k_with "storeName" => (k_dflt (refine' storeX_any ?F ?N ?_ ?a ?b; (case F => k_asm); (case N => k_asm); (case a => rfl); (case b => rfl); k_whole); intro h' tk' F' N'; (try k_sweep))
  k_with "eval Call Name cons nil" => (refine Call_ ?_)
  k_with "eval Call Attribute cons nil" => (refine MethodCall_ ?_)
  k_with "spliced" => (first | ((with_reducible show wpAny _ _ (spliced (backTo _ (starEach (PySem.Expr.Name _ _ :: _) _))) _ _ _); k_dflt (refine' args_loc ?F ?v ?a ?b ?c ?_; (case F => k_asm); (case a => rfl); (case b => rfl); (case v => rfl); (case c => decide))) | ((with_reducible show wpAny _ _ (spliced (backTo _ (starEach (PySem.Expr.Constant (Const.int _) _ _ :: _) _))) _ _ _); refine args_int ?_) | ((with_reducible show wpAny _ _ (spliced (backTo _ (starEach (PySem.Expr.Constant (Const.str _) _ _ :: _) _))) _ _ _); refine args_str ?_))
  k_with "eval Attribute Name" => (k_dflt (refine' attr_loc ?F ?v ?a ?b ?c ?_; (case F => k_asm); (case a => rfl); (case b => rfl); (case v => rfl); (case c => decide)))
  k_with "eval Subscript" => (first | ((with_reducible show wpAny _ _ (eval (PySem.Expr.Subscript (PySem.Expr.Name _ _) (PySem.Expr.Constant (Const.int _) _ _) _) _) _ _ _); k_dflt (refine' sub_loc_int ?F ?v ?a ?b ?c ?_; (case F => k_asm); (case a => rfl); (case b => rfl); (case v => rfl); (case c => decide))) | ((with_reducible show wpAny _ _ (eval (PySem.Expr.Subscript (PySem.Expr.Name _ _) _ _) _) _ _ _); k_dflt (refine' sub_loc ?F ?v ?a ?b ?c ?_; (case F => k_asm); (case a => rfl); (case b => rfl); (case v => rfl); (case c => decide))))
  k_with "subscriptTail Name Name ref int" => (k_dflt (refine cell_item (by k_asm) (by k_mem) (v := .ref (r.c x)) hi1 x.idx63 (num_at r.c x) ?_ (by with_unfolding_all rfl)))
  repeat (first | (k_unfold; (try dsimp only)) | (k_end; wrow_close) | walk1 | (dsimp only; walk1) | (leave1; (try dsimp only)) | fail "no step")
  refine fun H => hret _ _ _ (H fun q hq => ((by k_asm : News h₀ L _ _) q (by first | exact hq | exact .tail _ hq | exact .tail _ (.tail _ hq) | exact .tail _ (.tail _ (.tail _ hq)))).1) ⟨_, rfl⟩
-- part A4
set_option maxHeartbeats 8000000 in
theorem evplace_ok (w : World) (e : St) (r : Rw) (ok : Rok w r) (x : Var) (s : Shared) {x0 : Addr} {t1 t2 t3 : Tok} (ht : s.heap.get? x0 = some (tup [.str (Str.ofString "var") t1, .int 0 t2, .str (Str.ofString x.name) t3])) :
    Does w 381 9 [.ref r.run, .ref x0] s (litx w e r x) (fun _ v => ∃ t, v = .int (e.get x) t) := by
  intro loose mean mg mb dp un gd cn cs a ccd cl outer A₀ base h₀ L m Q E C N hd hret
  have hl := lit_leads (e := e) ok
  have ⟨oke, okel, oko, okol, okf, okfl⟩ := ok
  replace hl := fun q hq => hl q (litx_sub w e r x q hq)
  dsimp only [litx] at N hl
  w_top off
  have X0 := C.X; revert X0; k_fill; intro X0
  (refine wpAny_call ?_; k_dflt (refine' enter _ ?k1 ?k2 ?k3 ?k4 ?k5 ?kA ?kF ?kK ?k6 ?k7 ?k8 ?k9 ?kB ?_ ?c2 ?c3 ?c4 ?c5; (case kA => exact rfl); (case kF => exact rfl); (case kK => exact Cx.k (by assumption)); (case k1 => exact Cx.B (by assumption)); (case k2 => exact Cx.F (by assumption)); (case k3 => exact Cx.X (by assumption)); (case k4 => assumption); (case k5 => exact Cx.T (by assumption)); (case k6 => k_is); (case k7 => k_is); (case k8 => k_room); (case k9 => exact BindsTo.of_eq rfl); (case c5 => decide); (case kB => exact locs rfl); (case c2 => exact rfl); (case c3 => exact rfl); (case c4 => exact rfl); k_whole))
  intro g' L' h' hg FG' F' N' B' X' T'
  have hx := hg _ _ ht (not_in N ht rfl hl)
  have h9 : IsTup g' x0 #[.str (Str.ofString "var") t1, .int 0 t2, .str (Str.ofString x.name) t3] := ⟨_, hx, rfl, 0, rfl⟩
  have hK := keepAll hg N
  clear hg hl N
  (try dsimp only)
  (with_reducible show wpAny _ _ _ _ _ _)
  k_fold
  k_with_none
  k_with "k_room" => (((try simp only [depth_mark, depth_under_make, depth_under_kw, depth_in1, depth_deeper, depth_caller]); (try dsimp only [ktrTop]); (try simp only [recursionLimit]); (first | exact rmk (by assumption) (by exact Nat.le_of_ble_eq_true rfl) | exact rmk1 (by assumption) (by exact Nat.le_of_ble_eq_true rfl) | exact rmk2 (by assumption) (by exact Nat.le_of_ble_eq_true rfl) | exact rmk3 (by assumption) (by exact Nat.le_of_ble_eq_true rfl) | exact rmk4 (by assumption) (by exact Nat.le_of_ble_eq_true rfl) | exact rmk0 (by assumption) | omega)))
  k_with "k_mem" => ((change (_ ∈ (_ : List (Addr × Obj))); ktr_member))
  k_with "k_mem" => (((change (_ ∈ ((_ ++ _) : List (Addr × Obj)))); first | (refine List.mem_append.mpr (Or.inl ?_); k_mem) | (refine List.mem_append.mpr (Or.inr ?_); k_mem)))
  k_with "binaryOp LShift int int" => (((refine lshift_int_small (by decide) (by decide) (by decide) ?_); rw [show ((1:Int) * 2 ^ ((32:Int) - 1).toNat) = 2147483648 from rfl]))
  k_with "storeName" => (k_dflt (refine' storeX_any ?F ?N ?_ ?a ?b; (case F => k_asm); (case N => k_asm); (case a => rfl); (case b => rfl); k_whole); intro h' tk' F' N'; (try k_sweep))
  k_with "eval Call Name cons nil" => (refine Call_ ?_)
  k_with "eval Call Attribute cons nil" => (refine MethodCall_ ?_)
  k_with "spliced" => (first | ((with_reducible show wpAny _ _ (spliced (backTo _ (starEach (PySem.Expr.Name _ _ :: _) _))) _ _ _); k_dflt (refine' args_loc ?F ?v ?a ?b ?c ?_; (case F => k_asm); (case a => rfl); (case b => rfl); (case v => rfl); (case c => decide))) | ((with_reducible show wpAny _ _ (spliced (backTo _ (starEach (PySem.Expr.Constant (Const.int _) _ _ :: _) _))) _ _ _); refine args_int ?_) | ((with_reducible show wpAny _ _ (spliced (backTo _ (starEach (PySem.Expr.Constant (Const.str _) _ _ :: _) _))) _ _ _); refine args_str ?_))
  k_with "eval Attribute Name" => (k_dflt (refine' attr_loc ?F ?v ?a ?b ?c ?_; (case F => k_asm); (case a => rfl); (case b => rfl); (case v => rfl); (case c => decide)))
  k_with "eval Subscript" => (first | ((with_reducible show wpAny _ _ (eval (PySem.Expr.Subscript (PySem.Expr.Name _ _) (PySem.Expr.Constant (Const.int _) _ _) _) _) _ _ _); k_dflt (refine' sub_loc_int ?F ?v ?a ?b ?c ?_; (case F => k_asm); (case a => rfl); (case b => rfl); (case v => rfl); (case c => decide))) | ((with_reducible show wpAny _ _ (eval (PySem.Expr.Subscript (PySem.Expr.Name _ _) _ _) _) _ _ _); k_dflt (refine' sub_loc ?F ?v ?a ?b ?c ?_; (case F => k_asm); (case a => rfl); (case b => rfl); (case v => rfl); (case c => decide))))
  k_with "subscriptTail Name Constant ref int" => (k_dflt (refine item_tupleT (IsTup.keeps (by assumption) (Fr.keep (by k_asm))) (by decide) (by decide) rfl rfl ?_))
  have hi1 := x.idx0
  have hi2 := x.idx6
  k_with "call ref" => (k_dflt (refine Does.use (by k_asm) (by k_asm) (by k_asm) (by k_asm) (by exact rfl) (by k_asm) (place_ok w e r ok x _ (Fr.keep (by k_asm) _ _ hx)) (by first | exact fun q hq => hq | exact fun q hq => hq | exact fun q hq => .tail _ hq | exact fun q hq => .tail _ (.tail _ hq) | exact fun q hq => .tail _ (.tail _ (.tail _ hq))) (by ((try simp only [depth_mark, depth_deeper]); (try dsimp only [ktrTop]); (first | exact rmk (by assumption) (by exact Nat.le_of_ble_eq_true rfl) | exact rmk1 (by assumption) (by exact Nat.le_of_ble_eq_true rfl) | exact rmk2 (by assumption) (by exact Nat.le_of_ble_eq_true rfl) | exact rmk3 (by assumption) (by exact Nat.le_of_ble_eq_true rfl) | exact rmk4 (by assumption) (by exact Nat.le_of_ble_eq_true rfl) | exact rmk0 (by assumption) | omega))) ?_); intro v9 h9' tk9 F9 N9 kp9 e9; subst e9)
  k_with "call ref cons nil" => ((with_reducible show wpAny _ _ (call (Value.ref 124) _) _ _ _); k_dflt (refine Does.use (by k_asm) (by k_asm) (by k_asm) (by k_asm) (by exact rfl) (by k_asm) (load_ok w e r ok x _) (by first | exact fun q hq => hq | exact fun q hq => .tail _ hq | exact fun q hq => .tail _ (.tail _ hq)) (by ((try simp only [depth_mark, depth_deeper]); (try dsimp only [ktrTop]); (first | exact rmk (by assumption) (by exact Nat.le_of_ble_eq_true rfl) | exact rmk1 (by assumption) (by exact Nat.le_of_ble_eq_true rfl) | exact rmk2 (by assumption) (by exact Nat.le_of_ble_eq_true rfl) | exact rmk3 (by assumption) (by exact Nat.le_of_ble_eq_true rfl) | exact rmk4 (by assumption) (by exact Nat.le_of_ble_eq_true rfl) | exact rmk0 (by assumption) | omega))) ?_); intro v9 h9' tk9 F9 N9 kp9 e9; obtain ⟨t9, e9⟩ := e9; subst e9)
  repeat (first | (k_unfold; (try dsimp only)) | (k_end; wrow_close) | walk1 | (dsimp only; walk1) | (leave1; (try dsimp only)) | fail "no step")
  refine fun H => hret _ _ _ (H fun q hq => ((by k_asm : News h₀ L _ _) q (by first | exact hq | exact .tail _ hq | exact .tail _ (.tail _ hq) | exact .tail _ (.tail _ (.tail _ hq)))).1) ⟨_, rfl⟩
-- part A5
set_option maxHeartbeats 8000000 in
theorem fit_ok (w : World) (n : Int) (hf : Fit n) (s : Shared) {t1 t2 : Tok} :
    Does w 222 2 [.int n t1, .int 32 t2] s [] (fun _ v => v = .int n t1) := by
  obtain ⟨hx1, hx2⟩ := hf
  intro loose mean mg mb dp un gd cn cs a ccd cl outer A₀ base h₀ L m Q E C N hd hret
  w_top off
  have X0 := C.X; revert X0; k_fill; intro X0
  (refine wpAny_call ?_; k_dflt (refine' enter _ ?k1 ?k2 ?k3 ?k4 ?k5 ?kA ?kF ?kK ?k6 ?k7 ?k8 ?k9 ?kB ?_ ?c2 ?c3 ?c4 ?c5; (case kA => exact rfl); (case kF => exact rfl); (case kK => exact Cx.k (by assumption)); (case k1 => exact Cx.B (by assumption)); (case k2 => exact Cx.F (by assumption)); (case k3 => exact Cx.X (by assumption)); (case k4 => assumption); (case k5 => exact Cx.T (by assumption)); (case k6 => k_is); (case k7 => k_is); (case k8 => k_room); (case k9 => exact BindsTo.of_eq rfl); (case c5 => decide); (case kB => exact locs rfl); (case c2 => exact rfl); (case c3 => exact rfl); (case c4 => exact rfl); k_whole))
  intro g' L' h' hg FG' F' N' B' X' T'
  clear hg
  (try dsimp only)
  (with_reducible show wpAny _ _ _ _ _ _)
  k_fold
  k_with_none
  k_with "k_room" => (((try simp only [depth_mark, depth_under_make, depth_under_kw, depth_in1, depth_deeper, depth_caller]); (try dsimp only [ktrTop]); (try simp only [recursionLimit]); (first | exact rmk (by assumption) (by exact Nat.le_of_ble_eq_true rfl) | exact rmk1 (by assumption) (by exact Nat.le_of_ble_eq_true rfl) | exact rmk2 (by assumption) (by exact Nat.le_of_ble_eq_true rfl) | exact rmk3 (by assumption) (by exact Nat.le_of_ble_eq_true rfl) | exact rmk4 (by assumption) (by exact Nat.le_of_ble_eq_true rfl) | exact rmk0 (by assumption) | omega)))
  k_with "k_mem" => ((change (_ ∈ (_ : List (Addr × Obj))); ktr_member))
  k_with "k_mem" => (((change (_ ∈ ((_ ++ _) : List (Addr × Obj)))); first | (refine List.mem_append.mpr (Or.inl ?_); k_mem) | (refine List.mem_append.mpr (Or.inr ?_); k_mem)))
  k_with "binaryOp LShift int int" => (((refine lshift_int_small (by decide) (by decide) (by decide) ?_); rw [show ((1:Int) * 2 ^ ((32:Int) - 1).toNat) = 2147483648 from rfl]))
  k_with "storeName" => (k_dflt (refine' storeX_any ?F ?N ?_ ?a ?b; (case F => k_asm); (case N => k_asm); (case a => rfl); (case b => rfl); k_whole); intro h' tk' F' N'; (try k_sweep))
  k_with "eval Call Name cons nil" => (refine Call_ ?_)
  k_with "eval Call Attribute cons nil" => (refine MethodCall_ ?_)
  k_with "spliced" => (first | ((with_reducible show wpAny _ _ (spliced (backTo _ (starEach (PySem.Expr.Name _ _ :: _) _))) _ _ _); k_dflt (refine' args_loc ?F ?v ?a ?b ?c ?_; (case F => k_asm); (case a => rfl); (case b => rfl); (case v => rfl); (case c => decide))) | ((with_reducible show wpAny _ _ (spliced (backTo _ (starEach (PySem.Expr.Constant (Const.int _) _ _ :: _) _))) _ _ _); refine args_int ?_) | ((with_reducible show wpAny _ _ (spliced (backTo _ (starEach (PySem.Expr.Constant (Const.str _) _ _ :: _) _))) _ _ _); refine args_str ?_))
  k_with "eval Attribute Name" => (k_dflt (refine' attr_loc ?F ?v ?a ?b ?c ?_; (case F => k_asm); (case a => rfl); (case b => rfl); (case v => rfl); (case c => decide)))
  k_with "eval Subscript" => (first | ((with_reducible show wpAny _ _ (eval (PySem.Expr.Subscript (PySem.Expr.Name _ _) (PySem.Expr.Constant (Const.int _) _ _) _) _) _ _ _); k_dflt (refine' sub_loc_int ?F ?v ?a ?b ?c ?_; (case F => k_asm); (case a => rfl); (case b => rfl); (case v => rfl); (case c => decide))) | ((with_reducible show wpAny _ _ (eval (PySem.Expr.Subscript (PySem.Expr.Name _ _) _ _) _) _ _ _); k_dflt (refine' sub_loc ?F ?v ?a ?b ?c ?_; (case F => k_asm); (case a => rfl); (case b => rfl); (case v => rfl); (case c => decide))))
  repeat (first | (k_unfold; (try dsimp only)) | (k_end; wrow_close) | walk1 | (dsimp only; walk1) | (leave1; (try dsimp only)) | fail "no step")
  refine fun H => hret _ _ _ (H fun q hq => ((by k_asm : News h₀ L _ _) q (by first | exact hq | exact .tail _ hq | exact .tail _ (.tail _ hq) | exact .tail _ (.tail _ (.tail _ hq)))).1) rfl
theorem tdiv_neg' {x y : Int} (h : x < 0) (hp : 0 < y) : -((-x).fdiv y) = x.tdiv y := by
  rw [Int.fdiv_eq_ediv_of_nonneg _ (by omega), ← Int.tdiv_eq_ediv_of_nonneg (by omega), Int.neg_tdiv, Int.neg_neg]
theorem tdiv_pos' {x y : Int} (h : 0 ≤ x) (hp : 0 < y) : x.fdiv y = x.tdiv y := by
  rw [Int.fdiv_eq_ediv_of_nonneg _ (by omega), ← Int.tdiv_eq_ediv_of_nonneg h]
set_option maxHeartbeats 8000000 in
theorem quo_ok (w : World) (x y : Int) (hx : Fit x) (hy : Fit y) (hp : 0 < y) (hp2 : y < 100000) (s : Shared) {t1 t2 : Tok} :
    Does w 250 2 [.int x t1, .int y t2] s [] (fun _ v => ∃ t, v = .int (x.tdiv y) t) := by
  obtain ⟨hx1, hx2⟩ := hx
  obtain ⟨hy1, hy2⟩ := hy
  rcases Int.lt_or_le x 0 with hx0 | hx0
  all_goals (
  intro loose mean mg mb dp un gd cn cs a ccd cl outer A₀ base h₀ L m Q E C N hd hret
  w_top off
  have X0 := C.X; revert X0; k_fill; intro X0
  (refine wpAny_call ?_; k_dflt (refine' enter _ ?k1 ?k2 ?k3 ?k4 ?k5 ?kA ?kF ?kK ?k6 ?k7 ?k8 ?k9 ?kB ?_ ?c2 ?c3 ?c4 ?c5; (case kA => exact rfl); (case kF => exact rfl); (case kK => exact Cx.k (by assumption)); (case k1 => exact Cx.B (by assumption)); (case k2 => exact Cx.F (by assumption)); (case k3 => exact Cx.X (by assumption)); (case k4 => assumption); (case k5 => exact Cx.T (by assumption)); (case k6 => k_is); (case k7 => k_is); (case k8 => k_room); (case k9 => exact BindsTo.of_eq rfl); (case c5 => decide); (case kB => exact locs rfl); (case c2 => exact rfl); (case c3 => exact rfl); (case c4 => exact rfl); k_whole))
  intro g' L' h' hg FG' F' N' B' X' T'
  clear hg
  (try dsimp only)
  (with_reducible show wpAny _ _ _ _ _ _)
  k_fold
  k_with "binaryOp FloorDiv int int" => ((first | rw [if_pos hx0] | rw [if_neg (Int.not_lt.mpr hx0)]); rw [if_neg (show ¬ y < 0 by omega)]; refine floordiv_int (by omega) ?_ (Or.inl (PyProof.noPylong_small (by omega))))
  have e1 : decide (y < 0) = false := decide_eq_false (by omega)
  have e2 : decide (x < 0) = true ∨ decide (x < 0) = false := by cases decide (x < 0) <;> simp
  k_with "ite" => (first | (rw [decide_eq_true hx0, e1]; refine PySem.W.ite_neg (by decide) ?_) | (rw [decide_eq_false (Int.not_lt.mpr hx0), e1]; refine PySem.W.ite_pos (by decide) ?_))
  repeat (first | (k_unfold; (try dsimp only)) | (k_end; wrow_close) | walk1 | (dsimp only; walk1) | (leave1; (try dsimp only)) | fail "no step"))
  · refine fun H => hret _ _ _ (H fun q hq => ((by k_asm : News h₀ L _ _) q (by first | exact hq | exact .tail _ hq | exact .tail _ (.tail _ hq) | exact .tail _ (.tail _ (.tail _ hq)))).1) ⟨_, congrArg (Value.int · _) (tdiv_neg' hx0 hp)⟩
  · refine fun H => hret _ _ _ (H fun q hq => ((by k_asm : News h₀ L _ _) q (by first | exact hq | exact .tail _ hq | exact .tail _ (.tail _ hq) | exact .tail _ (.tail _ (.tail _ hq)))).1) ⟨_, congrArg (Value.int · _) (tdiv_pos' hx0 hp)⟩
-- part A6
set_option maxHeartbeats 8000000 in
theorem reckon_ok (w : World) (r : Rw) (ok : Rok w r) (o : Bop) (x y : Int) (hf : o.Fits x y) (s : Shared) {t1 t2 t3 t4 : Tok} :
    Does w 388 9 [.ref r.run, .str (Str.ofString o.word) t1, .int 0 t2, .int x t3, .int y t4] s (lit0 w r) (fun _ v => ∃ t, v = .int (o.eval x y) t) := by
  intro loose mean mg mb dp un gd cn cs a ccd cl outer A₀ base h₀ L m Q E C N hd hret
  have ⟨oke, okel, oko, okol, okf, okfl⟩ := ok
  dsimp only [lit0] at N
  w_top off
  have X0 := C.X; revert X0; k_fill; intro X0
  (refine wpAny_call ?_; k_dflt (refine' enter _ ?k1 ?k2 ?k3 ?k4 ?k5 ?kA ?kF ?kK ?k6 ?k7 ?k8 ?k9 ?kB ?_ ?c2 ?c3 ?c4 ?c5; (case kA => exact rfl); (case kF => exact rfl); (case kK => exact Cx.k (by assumption)); (case k1 => exact Cx.B (by assumption)); (case k2 => exact Cx.F (by assumption)); (case k3 => exact Cx.X (by assumption)); (case k4 => assumption); (case k5 => exact Cx.T (by assumption)); (case k6 => k_is); (case k7 => k_is); (case k8 => k_room); (case k9 => exact BindsTo.of_eq rfl); (case c5 => decide); (case kB => exact locs rfl); (case c2 => exact rfl); (case c3 => exact rfl); (case c4 => exact rfl); k_whole))
  intro g' L' h' hg FG' F' N' B' X' T'
  clear hg N
  (try dsimp only)
  (with_reducible show wpAny _ _ _ _ _ _)
  k_fold
  k_with_none
  k_with "k_room" => (((try simp only [depth_mark, depth_under_make, depth_under_kw, depth_in1, depth_deeper, depth_caller]); (try dsimp only [ktrTop]); (try simp only [recursionLimit]); (first | exact rmk (by assumption) (by exact Nat.le_of_ble_eq_true rfl) | exact rmk1 (by assumption) (by exact Nat.le_of_ble_eq_true rfl) | exact rmk2 (by assumption) (by exact Nat.le_of_ble_eq_true rfl) | exact rmk3 (by assumption) (by exact Nat.le_of_ble_eq_true rfl) | exact rmk4 (by assumption) (by exact Nat.le_of_ble_eq_true rfl) | exact rmk0 (by assumption) | omega)))
  k_with "k_mem" => ((change (_ ∈ (_ : List (Addr × Obj))); ktr_member))
  k_with "k_mem" => (((change (_ ∈ ((_ ++ _) : List (Addr × Obj)))); first | (refine List.mem_append.mpr (Or.inl ?_); k_mem) | (refine List.mem_append.mpr (Or.inr ?_); k_mem)))
  k_with "binaryOp LShift int int" => (((refine lshift_int_small (by decide) (by decide) (by decide) ?_); rw [show ((1:Int) * 2 ^ ((32:Int) - 1).toNat) = 2147483648 from rfl]))
  k_with "storeName" => (k_dflt (refine' storeX_any ?F ?N ?_ ?a ?b; (case F => k_asm); (case N => k_asm); (case a => rfl); (case b => rfl); k_whole); intro h' tk' F' N'; (try k_sweep))
  k_with "eval Call Name cons nil" => (refine Call_ ?_)
  k_with "eval Call Attribute cons nil" => (refine MethodCall_ ?_)
  k_with "spliced" => (first | ((with_reducible show wpAny _ _ (spliced (backTo _ (starEach (PySem.Expr.Name _ _ :: _) _))) _ _ _); k_dflt (refine' args_loc ?F ?v ?a ?b ?c ?_; (case F => k_asm); (case a => rfl); (case b => rfl); (case v => rfl); (case c => decide))) | ((with_reducible show wpAny _ _ (spliced (backTo _ (starEach (PySem.Expr.Constant (Const.int _) _ _ :: _) _))) _ _ _); refine args_int ?_) | ((with_reducible show wpAny _ _ (spliced (backTo _ (starEach (PySem.Expr.Constant (Const.str _) _ _ :: _) _))) _ _ _); refine args_str ?_))
  k_with "eval Attribute Name" => (k_dflt (refine' attr_loc ?F ?v ?a ?b ?c ?_; (case F => k_asm); (case a => rfl); (case b => rfl); (case v => rfl); (case c => decide)))
  k_with "eval Subscript" => (first | ((with_reducible show wpAny _ _ (eval (PySem.Expr.Subscript (PySem.Expr.Name _ _) (PySem.Expr.Constant (Const.int _) _ _) _) _) _ _ _); k_dflt (refine' sub_loc_int ?F ?v ?a ?b ?c ?_; (case F => k_asm); (case a => rfl); (case b => rfl); (case v => rfl); (case c => decide))) | ((with_reducible show wpAny _ _ (eval (PySem.Expr.Subscript (PySem.Expr.Name _ _) _ _) _) _ _ _); k_dflt (refine' sub_loc ?F ?v ?a ?b ?c ?_; (case F => k_asm); (case a => rfl); (case b => rfl); (case v => rfl); (case c => decide))))
  iterate 38 (first | (k_unfold; (try dsimp only)) | (k_end; wrow_close) | walk1 | (dsimp only; walk1) | (leave1; (try dsimp only)) | fail "no step")
  cases o <;> (
  obtain ⟨⟨hx1, hx2⟩, ⟨hy1, hy2⟩, ⟨hz1, hz2⟩, hp⟩ := hf
  simp only [Bop.eval, Bop.word] at hz1 hz2 hret
  (try (have hp1 : 0 < y := hp.1; have hp2 : y < 100000 := hp.2))
  dsimp only [Bop.word]
  k_with "ite" => (refine PySem.W.ite_neg (by (first | omega | (simp only [decide_eq_true_eq, beq_iff_eq]; omega))) ?_)
  k_with "call ref cons nil" => first | (k_dflt (refine Does.use (by k_asm) (by k_asm) (by k_asm) (by k_asm) (by exact rfl) (by k_asm) (fit_ok w _ ⟨hz1, hz2⟩ _) (by first | exact sub_nil | exact fun q hq => hq | exact fun q hq => .tail _ hq | exact fun q hq => .tail _ (.tail _ hq) | exact fun q hq => .tail _ (.tail _ (.tail _ hq))) (by ((try simp only [depth_mark, depth_deeper]); (try dsimp only [ktrTop]); (first | exact rmk (by assumption) (by exact Nat.le_of_ble_eq_true rfl) | exact rmk1 (by assumption) (by exact Nat.le_of_ble_eq_true rfl) | exact rmk2 (by assumption) (by exact Nat.le_of_ble_eq_true rfl) | exact rmk3 (by assumption) (by exact Nat.le_of_ble_eq_true rfl) | exact rmk4 (by assumption) (by exact Nat.le_of_ble_eq_true rfl) | exact rmk0 (by assumption) | omega))) ?_); intro v9 h9' tk9 F9 N9 kp9 e9; subst e9) | (k_dflt (refine Does.use (by k_asm) (by k_asm) (by k_asm) (by k_asm) (by exact rfl) (by k_asm) (quo_ok w _ _ ⟨hx1, hx2⟩ ⟨hy1, hy2⟩ hp.1 hp.2 _) (by first | exact sub_nil | exact fun q hq => hq | exact fun q hq => .tail _ hq | exact fun q hq => .tail _ (.tail _ hq) | exact fun q hq => .tail _ (.tail _ (.tail _ hq))) (by ((try simp only [depth_mark, depth_deeper]); (try dsimp only [ktrTop]); (first | exact rmk (by assumption) (by exact Nat.le_of_ble_eq_true rfl) | exact rmk1 (by assumption) (by exact Nat.le_of_ble_eq_true rfl) | exact rmk2 (by assumption) (by exact Nat.le_of_ble_eq_true rfl) | exact rmk3 (by assumption) (by exact Nat.le_of_ble_eq_true rfl) | exact rmk4 (by assumption) (by exact Nat.le_of_ble_eq_true rfl) | exact rmk0 (by assumption) | omega))) ?_); intro v9 h9' tk9 F9 N9 kp9 e9; obtain ⟨t9, e9⟩ := e9; subst e9)
  repeat (first | (k_unfold; (try dsimp only)) | (k_end; wrow_close) | walk1 | (dsimp only; walk1) | (leave1; (try dsimp only)) | fail "no step")
  refine fun H => hret _ _ _ (H fun q hq => ((by k_asm : News h₀ L _ _) q (by first | exact hq | exact .tail _ hq | exact .tail _ (.tail _ hq) | exact .tail _ (.tail _ (.tail _ hq)))).1) ⟨_, rfl⟩)
-- part A7
set_option maxHeartbeats 8000000 in
theorem evconst_ok (w : World) (e : St) (r : Rw) (ok : Rok w r) (n : Int) (s : Shared) {x0 : Addr} {t1 t2 t3 : Tok} (ht : s.heap.get? x0 = some (tup [.str (Str.ofString "const") t1, .int 0 t2, .int n t3])) :
    Does w 374 3 [.ref r.run, .ref x0] s (lit0 w r) (fun _ v => ∃ t, v = .int n t) := by
  intro loose mean mg mb dp un gd cn cs a ccd cl outer A₀ base h₀ L m Q E C N hd hret
  have hl := lit_leads (e := e) ok
  have ⟨oke, okel, oko, okol, okf, okfl⟩ := ok
  replace hl := fun q hq => hl q (lit0_sub w e r q hq)
  dsimp only [lit0] at N hl
  w_top off
  have X0 := C.X; revert X0; k_fill; intro X0
  (refine wpAny_call ?_; k_dflt (refine' enter _ ?k1 ?k2 ?k3 ?k4 ?k5 ?kA ?kF ?kK ?k6 ?k7 ?k8 ?k9 ?kB ?_ ?c2 ?c3 ?c4 ?c5; (case kA => exact rfl); (case kF => exact rfl); (case kK => exact Cx.k (by assumption)); (case k1 => exact Cx.B (by assumption)); (case k2 => exact Cx.F (by assumption)); (case k3 => exact Cx.X (by assumption)); (case k4 => assumption); (case k5 => exact Cx.T (by assumption)); (case k6 => k_is); (case k7 => k_is); (case k8 => k_room); (case k9 => exact BindsTo.of_eq rfl); (case c5 => decide); (case kB => exact locs rfl); (case c2 => exact rfl); (case c3 => exact rfl); (case c4 => exact rfl); k_whole))
  intro g' L' h' hg FG' F' N' B' X' T'
  have hx := hg _ _ ht (not_in N ht rfl hl)
  have h9 : IsTup g' x0 #[.str (Str.ofString "const") t1, .int 0 t2, .int n t3] := ⟨_, hx, rfl, 0, rfl⟩
  have hK := keepAll hg N
  clear hg hl N
  (try dsimp only)
  (with_reducible show wpAny _ _ _ _ _ _)
  k_fold
  k_with_none
  k_with "k_room" => (((try simp only [depth_mark, depth_under_make, depth_under_kw, depth_in1, depth_deeper, depth_caller]); (try dsimp only [ktrTop]); (try simp only [recursionLimit]); (first | exact rmk (by assumption) (by exact Nat.le_of_ble_eq_true rfl) | exact rmk1 (by assumption) (by exact Nat.le_of_ble_eq_true rfl) | exact rmk2 (by assumption) (by exact Nat.le_of_ble_eq_true rfl) | exact rmk3 (by assumption) (by exact Nat.le_of_ble_eq_true rfl) | exact rmk4 (by assumption) (by exact Nat.le_of_ble_eq_true rfl) | exact rmk0 (by assumption) | omega)))
  k_with "k_mem" => ((change (_ ∈ (_ : List (Addr × Obj))); ktr_member))
  k_with "k_mem" => (((change (_ ∈ ((_ ++ _) : List (Addr × Obj)))); first | (refine List.mem_append.mpr (Or.inl ?_); k_mem) | (refine List.mem_append.mpr (Or.inr ?_); k_mem)))
  k_with "binaryOp LShift int int" => (((refine lshift_int_small (by decide) (by decide) (by decide) ?_); rw [show ((1:Int) * 2 ^ ((32:Int) - 1).toNat) = 2147483648 from rfl]))
  k_with "storeName" => (k_dflt (refine' storeX_any ?F ?N ?_ ?a ?b; (case F => k_asm); (case N => k_asm); (case a => rfl); (case b => rfl); k_whole); intro h' tk' F' N'; (try k_sweep))
  k_with "eval Call Name cons nil" => (refine Call_ ?_)
  k_with "eval Call Attribute cons nil" => (refine MethodCall_ ?_)
  k_with "spliced" => (first | ((with_reducible show wpAny _ _ (spliced (backTo _ (starEach (PySem.Expr.Name _ _ :: _) _))) _ _ _); k_dflt (refine' args_loc ?F ?v ?a ?b ?c ?_; (case F => k_asm); (case a => rfl); (case b => rfl); (case v => rfl); (case c => decide))) | ((with_reducible show wpAny _ _ (spliced (backTo _ (starEach (PySem.Expr.Constant (Const.int _) _ _ :: _) _))) _ _ _); refine args_int ?_) | ((with_reducible show wpAny _ _ (spliced (backTo _ (starEach (PySem.Expr.Constant (Const.str _) _ _ :: _) _))) _ _ _); refine args_str ?_))
  k_with "eval Attribute Name" => (k_dflt (refine' attr_loc ?F ?v ?a ?b ?c ?_; (case F => k_asm); (case a => rfl); (case b => rfl); (case v => rfl); (case c => decide)))
  k_with "eval Subscript" => (first | ((with_reducible show wpAny _ _ (eval (PySem.Expr.Subscript (PySem.Expr.Name _ _) (PySem.Expr.Constant (Const.int _) _ _) _) _) _ _ _); k_dflt (refine' sub_loc_int ?F ?v ?a ?b ?c ?_; (case F => k_asm); (case a => rfl); (case b => rfl); (case v => rfl); (case c => decide))) | ((with_reducible show wpAny _ _ (eval (PySem.Expr.Subscript (PySem.Expr.Name _ _) _ _) _) _ _ _); k_dflt (refine' sub_loc ?F ?v ?a ?b ?c ?_; (case F => k_asm); (case a => rfl); (case b => rfl); (case v => rfl); (case c => decide))))
  k_with "subscriptTail Name Constant ref int" => (k_dflt (refine item_tupleT (IsTup.keeps (by assumption) (Fr.keep (by k_asm))) (by decide) (by decide) rfl rfl ?_))
  repeat (first | (k_unfold; (try dsimp only)) | (k_end; wrow_close) | walk1 | (dsimp only; walk1) | (leave1; (try dsimp only)) | fail "no step")
  refine fun H => hret _ _ _ (H fun q hq => ((by k_asm : News h₀ L _ _) q (by first | exact hq | exact .tail _ hq | exact .tail _ (.tail _ hq) | exact .tail _ (.tail _ (.tail _ hq)))).1) ⟨_, rfl⟩
noncomputable def EvOk (w : World) (e : St) (r : Rw) (x : Ex) : Prop := ∀ (s : Shared) (v : Value), ExAt s.heap v x → x.Fits e → Does w 341 (14 + 4 * x.depth) [.ref r.run, v] s (lit w e r) (fun _ v' => ∃ t, v' = .int (x.eval e) t)
set_option maxHeartbeats 8000000 in
theorem evbin_ok (w : World) (e : St) (r : Rw) (ok : Rok w r) (o : Bop) (x y : Ex) (I1 : EvOk w e r x) (I2 : EvOk w e r y) (hx : x.Fits e) (hy : y.Fits e) (hf : o.Fits (x.eval e) (y.eval e)) (s : Shared) {x0 : Addr} {t1 t2 : Tok} {u v : Value} (ht : s.heap.get? x0 = some (tup [.str (Str.ofString o.word) t1, .int 0 t2, u, v]))
    (hu : ExAt s.heap u x) (hv : ExAt s.heap v y) :
    Does w 395 (16 + 4 * max x.depth y.depth) [.ref r.run, .ref x0] s (lit w e r) (fun _ v => ∃ t, v = .int (o.eval (x.eval e) (y.eval e)) t) := by
  have hxy1 := Nat.le_max_left x.depth y.depth
  have hxy2 := Nat.le_max_right x.depth y.depth
  intro loose mean mg mb dp un gd cn cs a ccd cl outer A₀ base h₀ L m Q E C N hd hret
  have hl := lit_leads (e := e) ok
  have ⟨oke, okel, oko, okol, okf, okfl⟩ := ok
  dsimp only [lit] at N hl
  w_top off
  have X0 := C.X; revert X0; k_fill; intro X0
  (refine wpAny_call ?_; k_dflt (refine' enter _ ?k1 ?k2 ?k3 ?k4 ?k5 ?kA ?kF ?kK ?k6 ?k7 ?k8 ?k9 ?kB ?_ ?c2 ?c3 ?c4 ?c5; (case kA => exact rfl); (case kF => exact rfl); (case kK => exact Cx.k (by assumption)); (case k1 => exact Cx.B (by assumption)); (case k2 => exact Cx.F (by assumption)); (case k3 => exact Cx.X (by assumption)); (case k4 => assumption); (case k5 => exact Cx.T (by assumption)); (case k6 => k_is); (case k7 => k_is); (case k8 => k_room); (case k9 => exact BindsTo.of_eq rfl); (case c5 => decide); (case kB => exact locs rfl); (case c2 => exact rfl); (case c3 => exact rfl); (case c4 => exact rfl); k_whole))
  intro g' L' h' hg FG' F' N' B' X' T'
  have hx0 := hg _ _ ht (not_in N ht rfl hl)
  have h9 : IsTup g' x0 #[.str (Str.ofString o.word) t1, .int 0 t2, u, v] := ⟨_, hx0, rfl, 0, rfl⟩
  have hK := keepAll hg N
  clear hg hl N
  (try dsimp only)
  (with_reducible show wpAny _ _ _ _ _ _)
  k_fold
  k_with "subscriptTail Name Constant ref int" => (k_dflt (refine item_tupleT (IsTup.keeps (by assumption) (Fr.keep (by k_asm))) (by decide) (by decide) rfl rfl ?_))
  k_with "call ref cons nil" => first | (k_dflt (refine Does.use (by k_asm) (by k_asm) (by k_asm) (by k_asm) (by exact rfl) (by k_asm) (I1 _ u (hu.keeps (hK _ (Fr.keep (by k_asm)) (fun q hq => ((by k_asm : News g' L' _ _) q (by first | exact hq | exact .tail _ hq | exact .tail _ (.tail _ hq) | exact .tail _ (.tail _ (.tail _ hq)))).1))) hx) (by first | exact fun q hq => hq | exact fun q hq => hq | exact fun q hq => .tail _ hq | exact fun q hq => .tail _ (.tail _ hq) | exact fun q hq => .tail _ (.tail _ (.tail _ hq))) (by ((try simp only [depth_mark, depth_deeper]); (try dsimp only [ktrTop]); (first | exact rmk (by assumption) (by exact Nat.le_of_ble_eq_true rfl) | exact rmk1 (by assumption) (by exact Nat.le_of_ble_eq_true rfl) | exact rmk2 (by assumption) (by exact Nat.le_of_ble_eq_true rfl) | exact rmk3 (by assumption) (by exact Nat.le_of_ble_eq_true rfl) | exact rmk4 (by assumption) (by exact Nat.le_of_ble_eq_true rfl) | exact rmk0 (by assumption) | omega))) ?_); intro v9 h9' tk9 F9 N9 kp9 e9; obtain ⟨t9, e9⟩ := e9; subst e9) | (k_dflt (refine Does.use (by k_asm) (by k_asm) (by k_asm) (by k_asm) (by exact rfl) (by k_asm) (I2 _ v (hv.keeps (hK _ (Fr.keep (by k_asm)) (fun q hq => ((by k_asm : News g' L' _ _) q (by first | exact hq | exact .tail _ hq | exact .tail _ (.tail _ hq) | exact .tail _ (.tail _ (.tail _ hq)))).1))) hy) (by first | exact fun q hq => hq | exact fun q hq => hq | exact fun q hq => .tail _ hq | exact fun q hq => .tail _ (.tail _ hq) | exact fun q hq => .tail _ (.tail _ (.tail _ hq))) (by ((try simp only [depth_mark, depth_deeper]); (try dsimp only [ktrTop]); (first | exact rmk (by assumption) (by exact Nat.le_of_ble_eq_true rfl) | exact rmk1 (by assumption) (by exact Nat.le_of_ble_eq_true rfl) | exact rmk2 (by assumption) (by exact Nat.le_of_ble_eq_true rfl) | exact rmk3 (by assumption) (by exact Nat.le_of_ble_eq_true rfl) | exact rmk4 (by assumption) (by exact Nat.le_of_ble_eq_true rfl) | exact rmk0 (by assumption) | omega))) ?_); intro v9 h9' tk9 F9 N9 kp9 e9; obtain ⟨t9, e9⟩ := e9; subst e9) | (k_dflt (refine Does.use (by k_asm) (by k_asm) (by k_asm) (by k_asm) (by exact rfl) (by k_asm) ((reckon_ok w r ok o _ _ hf _).mono (Nat.le_refl _) (lit0_sub w e r)) (by first | exact fun q hq => hq | exact fun q hq => hq | exact fun q hq => .tail _ hq | exact fun q hq => .tail _ (.tail _ hq) | exact fun q hq => .tail _ (.tail _ (.tail _ hq))) (by ((try simp only [depth_mark, depth_deeper]); (try dsimp only [ktrTop]); (first | exact rmk (by assumption) (by exact Nat.le_of_ble_eq_true rfl) | exact rmk1 (by assumption) (by exact Nat.le_of_ble_eq_true rfl) | exact rmk2 (by assumption) (by exact Nat.le_of_ble_eq_true rfl) | exact rmk3 (by assumption) (by exact Nat.le_of_ble_eq_true rfl) | exact rmk4 (by assumption) (by exact Nat.le_of_ble_eq_true rfl) | exact rmk0 (by assumption) | omega))) ?_); intro v9 h9' tk9 F9 N9 kp9 e9; obtain ⟨t9, e9⟩ := e9; subst e9)
  repeat (first | (k_unfold; (try dsimp only)) | (k_end; wrow_close) | walk1 | (dsimp only; walk1) | (leave1; (try dsimp only)) | fail "no step")
  refine fun H => hret _ _ _ (H fun q hq => ((by k_asm : News h₀ L _ _) q (by first | exact hq | exact .tail _ hq | exact .tail _ (.tail _ hq) | exact .tail _ (.tail _ (.tail _ hq)))).1) ⟨_, rfl⟩
-- part A8
set_option maxHeartbeats 8000000 in
theorem evheadC_ok (w : World) (e : St) (r : Rw) (ok : Rok w r) {wd : String} {t1 t2 : Tok} {k : Int} {u : Value} (hv : valueAt exKvs (Str.ofString wd) = some (.ref 374)) (s : Shared) {x0 : Addr} (ht : s.heap.get? x0 = some (tup [.str (Str.ofString wd) t1, .int k t2, u])) {nd : Nat} {P : Heap → Value → Prop}
    (D : ∀ s' : Shared, (∀ b o, s.heap.get? b = some o → s'.heap.get? b = some o) → Does w 374 nd [.ref r.run, .ref x0] s' (lit w e r) P) :
    Does w 341 (nd + 2) [.ref r.run, .ref x0] s (lit w e r) P := by
  intro loose mean mg mb dp un gd cn cs a ccd cl outer A₀ base h₀ L m Q E C N hd hret
  have hl := lit_leads (e := e) ok
  have ⟨oke, okel, oko, okol, okf, okfl⟩ := ok
  dsimp only [lit] at N hl
  w_top off
  have X0 := C.X; revert X0; k_fill; intro X0
  (refine wpAny_call ?_; k_dflt (refine' enter _ ?k1 ?k2 ?k3 ?k4 ?k5 ?kA ?kF ?kK ?k6 ?k7 ?k8 ?k9 ?kB ?_ ?c2 ?c3 ?c4 ?c5; (case kA => exact rfl); (case kF => exact rfl); (case kK => exact Cx.k (by assumption)); (case k1 => exact Cx.B (by assumption)); (case k2 => exact Cx.F (by assumption)); (case k3 => exact Cx.X (by assumption)); (case k4 => assumption); (case k5 => exact Cx.T (by assumption)); (case k6 => k_is); (case k7 => k_is); (case k8 => k_room); (case k9 => exact BindsTo.of_eq rfl); (case c5 => decide); (case kB => exact locs rfl); (case c2 => exact rfl); (case c3 => exact rfl); (case c4 => exact rfl); k_whole))
  intro g' L' h' hg FG' F' N' B' X' T'
  have hx := hg _ _ ht (not_in N ht rfl hl)
  have h9 : IsTup g' x0 #[.str (Str.ofString wd) t1, .int k t2, u] := ⟨_, hx, rfl, 0, rfl⟩
  have hK := keepAll hg N
  clear hg hl N
  (try dsimp only)
  (with_reducible show wpAny _ _ _ _ _ _)
  k_fold
  k_with_none
  k_with "k_room" => (((try simp only [depth_mark, depth_under_make, depth_under_kw, depth_in1, depth_deeper, depth_caller]); (try dsimp only [ktrTop]); (try simp only [recursionLimit]); (first | exact rmk (by assumption) (by exact Nat.le_of_ble_eq_true rfl) | exact rmk1 (by assumption) (by exact Nat.le_of_ble_eq_true rfl) | exact rmk2 (by assumption) (by exact Nat.le_of_ble_eq_true rfl) | exact rmk3 (by assumption) (by exact Nat.le_of_ble_eq_true rfl) | exact rmk4 (by assumption) (by exact Nat.le_of_ble_eq_true rfl) | exact rmk0 (by assumption) | omega)))
  k_with "k_mem" => ((change (_ ∈ (_ : List (Addr × Obj))); ktr_member))
  k_with "k_mem" => (((change (_ ∈ ((_ ++ _) : List (Addr × Obj)))); first | (refine List.mem_append.mpr (Or.inl ?_); k_mem) | (refine List.mem_append.mpr (Or.inr ?_); k_mem)))
  k_with "binaryOp LShift int int" => (((refine lshift_int_small (by decide) (by decide) (by decide) ?_); rw [show ((1:Int) * 2 ^ ((32:Int) - 1).toNat) = 2147483648 from rfl]))
  k_with "storeName" => (k_dflt (refine' storeX_any ?F ?N ?_ ?a ?b; (case F => k_asm); (case N => k_asm); (case a => rfl); (case b => rfl); k_whole); intro h' tk' F' N'; (try k_sweep))
  k_with "eval Call Name cons nil" => (refine Call_ ?_)
  k_with "eval Call Attribute cons nil" => (refine MethodCall_ ?_)
  k_with "spliced" => (first | ((with_reducible show wpAny _ _ (spliced (backTo _ (starEach (PySem.Expr.Name _ _ :: _) _))) _ _ _); k_dflt (refine' args_loc ?F ?v ?a ?b ?c ?_; (case F => k_asm); (case a => rfl); (case b => rfl); (case v => rfl); (case c => decide))) | ((with_reducible show wpAny _ _ (spliced (backTo _ (starEach (PySem.Expr.Constant (Const.int _) _ _ :: _) _))) _ _ _); refine args_int ?_) | ((with_reducible show wpAny _ _ (spliced (backTo _ (starEach (PySem.Expr.Constant (Const.str _) _ _ :: _) _))) _ _ _); refine args_str ?_))
  k_with "eval Attribute Name" => (k_dflt (refine' attr_loc ?F ?v ?a ?b ?c ?_; (case F => k_asm); (case a => rfl); (case b => rfl); (case v => rfl); (case c => decide)))
  k_with "eval Subscript" => (first | ((with_reducible show wpAny _ _ (eval (PySem.Expr.Subscript (PySem.Expr.Name _ _) (PySem.Expr.Constant (Const.int _) _ _) _) _) _ _ _); k_dflt (refine' sub_loc_int ?F ?v ?a ?b ?c ?_; (case F => k_asm); (case a => rfl); (case b => rfl); (case v => rfl); (case c => decide))) | ((with_reducible show wpAny _ _ (eval (PySem.Expr.Subscript (PySem.Expr.Name _ _) _ _) _) _ _ _); k_dflt (refine' sub_loc ?F ?v ?a ?b ?c ?_; (case F => k_asm); (case a => rfl); (case b => rfl); (case v => rfl); (case c => decide))))
  k_with "subscriptTail Name Constant ref int" => (k_dflt (refine item_tupleT (IsTup.keeps (by assumption) (Fr.keep (by k_asm))) (by decide) (by decide) rfl rfl ?_))
  k_with "compareOp NotIn str ref" => (k_dflt (refine kdg_notin (knd := PySem.strKind _ _) (by k_asm) (by k_mem) oke okel (strKind_is _ _ _ _) true (by rw [hv]; rfl) ?_); (try dsimp only [Bool.not_true, Bool.not_false]))
  k_with "getItem ref str" => (k_dflt (refine wpAny_getItem_of (strKind_is _ _ _ _) (kda_dict (by k_asm) (by k_mem) oke).mapOf hv ?_))
  k_with "call ref cons nil" => (k_dflt (refine Does.use (by k_asm) (by k_asm) (by k_asm) (by k_asm) (by exact rfl) (by k_asm) (D _ (hK _ (Fr.keep (by k_asm)) (fun q hq => ((by k_asm : News g' L' _ _) q (by first | exact hq | exact .tail _ hq | exact .tail _ (.tail _ hq) | exact .tail _ (.tail _ (.tail _ hq)))).1))) (by first | exact fun q hq => hq | exact fun q hq => hq | exact fun q hq => .tail _ hq | exact fun q hq => .tail _ (.tail _ hq) | exact fun q hq => .tail _ (.tail _ (.tail _ hq))) (by ((try simp only [depth_mark, depth_deeper]); (try dsimp only [ktrTop]); (first | exact rmk (by assumption) (by exact Nat.le_of_ble_eq_true rfl) | exact rmk1 (by assumption) (by exact Nat.le_of_ble_eq_true rfl) | exact rmk2 (by assumption) (by exact Nat.le_of_ble_eq_true rfl) | exact rmk3 (by assumption) (by exact Nat.le_of_ble_eq_true rfl) | exact rmk4 (by assumption) (by exact Nat.le_of_ble_eq_true rfl) | exact rmk0 (by assumption) | omega))) ?_); intro v9 h9' tk9 F9 N9 kp9 e9)
  repeat (first | (k_unfold; (try dsimp only)) | (k_end; wrow_close) | walk1 | (dsimp only; walk1) | (leave1; (try dsimp only)) | fail "no step")
  refine fun H => hret _ _ _ (H fun q hq => ((by k_asm : News h₀ L _ _) q (by first | exact hq | exact .tail _ hq | exact .tail _ (.tail _ hq) | exact .tail _ (.tail _ (.tail _ hq)))).1) (by assumption)
set_option maxHeartbeats 8000000 in
theorem evheadP_ok (w : World) (e : St) (r : Rw) (ok : Rok w r) {wd : String} {t1 t2 : Tok} {k : Int} {u : Value} (hv : valueAt exKvs (Str.ofString wd) = some (.ref 381)) (s : Shared) {x0 : Addr} (ht : s.heap.get? x0 = some (tup [.str (Str.ofString wd) t1, .int k t2, u])) {nd : Nat} {P : Heap → Value → Prop}
    (D : ∀ s' : Shared, (∀ b o, s.heap.get? b = some o → s'.heap.get? b = some o) → Does w 381 nd [.ref r.run, .ref x0] s' (lit w e r) P) :
    Does w 341 (nd + 2) [.ref r.run, .ref x0] s (lit w e r) P := by
  intro loose mean mg mb dp un gd cn cs a ccd cl outer A₀ base h₀ L m Q E C N hd hret
  have hl := lit_leads (e := e) ok
  have ⟨oke, okel, oko, okol, okf, okfl⟩ := ok
  dsimp only [lit] at N hl
  w_top off
  have X0 := C.X; revert X0; k_fill; intro X0
  (refine wpAny_call ?_; k_dflt (refine' enter _ ?k1 ?k2 ?k3 ?k4 ?k5 ?kA ?kF ?kK ?k6 ?k7 ?k8 ?k9 ?kB ?_ ?c2 ?c3 ?c4 ?c5; (case kA => exact rfl); (case kF => exact rfl); (case kK => exact Cx.k (by assumption)); (case k1 => exact Cx.B (by assumption)); (case k2 => exact Cx.F (by assumption)); (case k3 => exact Cx.X (by assumption)); (case k4 => assumption); (case k5 => exact Cx.T (by assumption)); (case k6 => k_is); (case k7 => k_is); (case k8 => k_room); (case k9 => exact BindsTo.of_eq rfl); (case c5 => decide); (case kB => exact locs rfl); (case c2 => exact rfl); (case c3 => exact rfl); (case c4 => exact rfl); k_whole))
  intro g' L' h' hg FG' F' N' B' X' T'
  have hx := hg _ _ ht (not_in N ht rfl hl)
  have h9 : IsTup g' x0 #[.str (Str.ofString wd) t1, .int k t2, u] := ⟨_, hx, rfl, 0, rfl⟩
  have hK := keepAll hg N
  clear hg hl N
  (try dsimp only)
  (with_reducible show wpAny _ _ _ _ _ _)
  k_fold
  k_with "subscriptTail Name Constant ref int" => (k_dflt (refine item_tupleT (IsTup.keeps (by assumption) (Fr.keep (by k_asm))) (by decide) (by decide) rfl rfl ?_))
  k_with "compareOp NotIn str ref" => (k_dflt (refine kdg_notin (knd := PySem.strKind _ _) (by k_asm) (by k_mem) oke okel (strKind_is _ _ _ _) true (by rw [hv]; rfl) ?_); (try dsimp only [Bool.not_true, Bool.not_false]))
  k_with "getItem ref str" => (k_dflt (refine wpAny_getItem_of (strKind_is _ _ _ _) (kda_dict (by k_asm) (by k_mem) oke).mapOf hv ?_))
  k_with "call ref cons nil" => (k_dflt (refine Does.use (by k_asm) (by k_asm) (by k_asm) (by k_asm) (by exact rfl) (by k_asm) (D _ (hK _ (Fr.keep (by k_asm)) (fun q hq => ((by k_asm : News g' L' _ _) q (by first | exact hq | exact .tail _ hq | exact .tail _ (.tail _ hq) | exact .tail _ (.tail _ (.tail _ hq)))).1))) (by first | exact fun q hq => hq | exact fun q hq => hq | exact fun q hq => .tail _ hq | exact fun q hq => .tail _ (.tail _ hq) | exact fun q hq => .tail _ (.tail _ (.tail _ hq))) (by ((try simp only [depth_mark, depth_deeper]); (try dsimp only [ktrTop]); (first | exact rmk (by assumption) (by exact Nat.le_of_ble_eq_true rfl) | exact rmk1 (by assumption) (by exact Nat.le_of_ble_eq_true rfl) | exact rmk2 (by assumption) (by exact Nat.le_of_ble_eq_true rfl) | exact rmk3 (by assumption) (by exact Nat.le_of_ble_eq_true rfl) | exact rmk4 (by assumption) (by exact Nat.le_of_ble_eq_true rfl) | exact rmk0 (by assumption) | omega))) ?_); intro v9 h9' tk9 F9 N9 kp9 e9)
  repeat (first | (k_unfold; (try dsimp only)) | (k_end; wrow_close) | walk1 | (dsimp only; walk1) | (leave1; (try dsimp only)) | fail "no step")
  refine fun H => hret _ _ _ (H fun q hq => ((by k_asm : News h₀ L _ _) q (by first | exact hq | exact .tail _ hq | exact .tail _ (.tail _ hq) | exact .tail _ (.tail _ (.tail _ hq)))).1) (by assumption)
set_option maxHeartbeats 8000000 in
theorem evheadB_ok (w : World) (e : St) (r : Rw) (ok : Rok w r) {wd : String} {t1 t2 : Tok} {k : Int} {u v : Value} (hv : valueAt exKvs (Str.ofString wd) = some (.ref 395)) (s : Shared) {x0 : Addr} (ht : s.heap.get? x0 = some (tup [.str (Str.ofString wd) t1, .int k t2, u, v])) {nd : Nat} {P : Heap → Value → Prop}
    (D : ∀ s' : Shared, (∀ b o, s.heap.get? b = some o → s'.heap.get? b = some o) → Does w 395 nd [.ref r.run, .ref x0] s' (lit w e r) P) :
    Does w 341 (nd + 2) [.ref r.run, .ref x0] s (lit w e r) P := by
  intro loose mean mg mb dp un gd cn cs a ccd cl outer A₀ base h₀ L m Q E C N hd hret
  have hl := lit_leads (e := e) ok
  have ⟨oke, okel, oko, okol, okf, okfl⟩ := ok
  dsimp only [lit] at N hl
  w_top off
  have X0 := C.X; revert X0; k_fill; intro X0
  (refine wpAny_call ?_; k_dflt (refine' enter _ ?k1 ?k2 ?k3 ?k4 ?k5 ?kA ?kF ?kK ?k6 ?k7 ?k8 ?k9 ?kB ?_ ?c2 ?c3 ?c4 ?c5; (case kA => exact rfl); (case kF => exact rfl); (case kK => exact Cx.k (by assumption)); (case k1 => exact Cx.B (by assumption)); (case k2 => exact Cx.F (by assumption)); (case k3 => exact Cx.X (by assumption)); (case k4 => assumption); (case k5 => exact Cx.T (by assumption)); (case k6 => k_is); (case k7 => k_is); (case k8 => k_room); (case k9 => exact BindsTo.of_eq rfl); (case c5 => decide); (case kB => exact locs rfl); (case c2 => exact rfl); (case c3 => exact rfl); (case c4 => exact rfl); k_whole))
  intro g' L' h' hg FG' F' N' B' X' T'
  have hx := hg _ _ ht (not_in N ht rfl hl)
  have h9 : IsTup g' x0 #[.str (Str.ofString wd) t1, .int k t2, u, v] := ⟨_, hx, rfl, 0, rfl⟩
  have hK := keepAll hg N
  clear hg hl N
  (try dsimp only)
  (with_reducible show wpAny _ _ _ _ _ _)
  k_fold
  k_with "subscriptTail Name Constant ref int" => (k_dflt (refine item_tupleT (IsTup.keeps (by assumption) (Fr.keep (by k_asm))) (by decide) (by decide) rfl rfl ?_))
  k_with "compareOp NotIn str ref" => (k_dflt (refine kdg_notin (knd := PySem.strKind _ _) (by k_asm) (by k_mem) oke okel (strKind_is _ _ _ _) true (by rw [hv]; rfl) ?_); (try dsimp only [Bool.not_true, Bool.not_false]))
  k_with "getItem ref str" => (k_dflt (refine wpAny_getItem_of (strKind_is _ _ _ _) (kda_dict (by k_asm) (by k_mem) oke).mapOf hv ?_))
  k_with "call ref cons nil" => (k_dflt (refine Does.use (by k_asm) (by k_asm) (by k_asm) (by k_asm) (by exact rfl) (by k_asm) (D _ (hK _ (Fr.keep (by k_asm)) (fun q hq => ((by k_asm : News g' L' _ _) q (by first | exact hq | exact .tail _ hq | exact .tail _ (.tail _ hq) | exact .tail _ (.tail _ (.tail _ hq)))).1))) (by first | exact fun q hq => hq | exact fun q hq => hq | exact fun q hq => .tail _ hq | exact fun q hq => .tail _ (.tail _ hq) | exact fun q hq => .tail _ (.tail _ (.tail _ hq))) (by ((try simp only [depth_mark, depth_deeper]); (try dsimp only [ktrTop]); (first | exact rmk (by assumption) (by exact Nat.le_of_ble_eq_true rfl) | exact rmk1 (by assumption) (by exact Nat.le_of_ble_eq_true rfl) | exact rmk2 (by assumption) (by exact Nat.le_of_ble_eq_true rfl) | exact rmk3 (by assumption) (by exact Nat.le_of_ble_eq_true rfl) | exact rmk4 (by assumption) (by exact Nat.le_of_ble_eq_true rfl) | exact rmk0 (by assumption) | omega))) ?_); intro v9 h9' tk9 F9 N9 kp9 e9)
  repeat (first | (k_unfold; (try dsimp only)) | (k_end; wrow_close) | walk1 | (dsimp only; walk1) | (leave1; (try dsimp only)) | fail "no step")
  refine fun H => hret _ _ _ (H fun q hq => ((by k_asm : News h₀ L _ _) q (by first | exact hq | exact .tail _ hq | exact .tail _ (.tail _ hq) | exact .tail _ (.tail _ (.tail _ hq)))).1) (by assumption)
set_option maxHeartbeats 8000000 in
theorem evheadL_ok (w : World) (e : St) (r : Rw) (ok : Rok w r) {wd : String} {t1 t2 : Tok} {k : Int} {u v : Value} (hv : valueAt exKvs (Str.ofString wd) = some (.ref 402)) (s : Shared) {x0 : Addr} (ht : s.heap.get? x0 = some (tup [.str (Str.ofString wd) t1, .int k t2, u, v])) {nd : Nat} {P : Heap → Value → Prop}
    (D : ∀ s' : Shared, (∀ b o, s.heap.get? b = some o → s'.heap.get? b = some o) → Does w 402 nd [.ref r.run, .ref x0] s' (lit w e r) P) :
    Does w 341 (nd + 2) [.ref r.run, .ref x0] s (lit w e r) P := by
  intro loose mean mg mb dp un gd cn cs a ccd cl outer A₀ base h₀ L m Q E C N hd hret
  have hl := lit_leads (e := e) ok
  have ⟨oke, okel, oko, okol, okf, okfl⟩ := ok
  dsimp only [lit] at N hl
  w_top off
  have X0 := C.X; revert X0; k_fill; intro X0
  (refine wpAny_call ?_; k_dflt (refine' enter _ ?k1 ?k2 ?k3 ?k4 ?k5 ?kA ?kF ?kK ?k6 ?k7 ?k8 ?k9 ?kB ?_ ?c2 ?c3 ?c4 ?c5; (case kA => exact rfl); (case kF => exact rfl); (case kK => exact Cx.k (by assumption)); (case k1 => exact Cx.B (by assumption)); (case k2 => exact Cx.F (by assumption)); (case k3 => exact Cx.X (by assumption)); (case k4 => assumption); (case k5 => exact Cx.T (by assumption)); (case k6 => k_is); (case k7 => k_is); (case k8 => k_room); (case k9 => exact BindsTo.of_eq rfl); (case c5 => decide); (case kB => exact locs rfl); (case c2 => exact rfl); (case c3 => exact rfl); (case c4 => exact rfl); k_whole))
  intro g' L' h' hg FG' F' N' B' X' T'
  have hx := hg _ _ ht (not_in N ht rfl hl)
  have h9 : IsTup g' x0 #[.str (Str.ofString wd) t1, .int k t2, u, v] := ⟨_, hx, rfl, 0, rfl⟩
  have hK := keepAll hg N
  clear hg hl N
  (try dsimp only)
  (with_reducible show wpAny _ _ _ _ _ _)
  k_fold
  k_with "subscriptTail Name Constant ref int" => (k_dflt (refine item_tupleT (IsTup.keeps (by assumption) (Fr.keep (by k_asm))) (by decide) (by decide) rfl rfl ?_))
  k_with "compareOp NotIn str ref" => (k_dflt (refine kdg_notin (knd := PySem.strKind _ _) (by k_asm) (by k_mem) oke okel (strKind_is _ _ _ _) true (by rw [hv]; rfl) ?_); (try dsimp only [Bool.not_true, Bool.not_false]))
  k_with "getItem ref str" => (k_dflt (refine wpAny_getItem_of (strKind_is _ _ _ _) (kda_dict (by k_asm) (by k_mem) oke).mapOf hv ?_))
  k_with "call ref cons nil" => (k_dflt (refine Does.use (by k_asm) (by k_asm) (by k_asm) (by k_asm) (by exact rfl) (by k_asm) (D _ (hK _ (Fr.keep (by k_asm)) (fun q hq => ((by k_asm : News g' L' _ _) q (by first | exact hq | exact .tail _ hq | exact .tail _ (.tail _ hq) | exact .tail _ (.tail _ (.tail _ hq)))).1))) (by first | exact fun q hq => hq | exact fun q hq => hq | exact fun q hq => .tail _ hq | exact fun q hq => .tail _ (.tail _ hq) | exact fun q hq => .tail _ (.tail _ (.tail _ hq))) (by ((try simp only [depth_mark, depth_deeper]); (try dsimp only [ktrTop]); (first | exact rmk (by assumption) (by exact Nat.le_of_ble_eq_true rfl) | exact rmk1 (by assumption) (by exact Nat.le_of_ble_eq_true rfl) | exact rmk2 (by assumption) (by exact Nat.le_of_ble_eq_true rfl) | exact rmk3 (by assumption) (by exact Nat.le_of_ble_eq_true rfl) | exact rmk4 (by assumption) (by exact Nat.le_of_ble_eq_true rfl) | exact rmk0 (by assumption) | omega))) ?_); intro v9 h9' tk9 F9 N9 kp9 e9)
  repeat (first | (k_unfold; (try dsimp only)) | (k_end; wrow_close) | walk1 | (dsimp only; walk1) | (leave1; (try dsimp only)) | fail "no step")
  refine fun H => hret _ _ _ (H fun q hq => ((by k_asm : News h₀ L _ _) q (by first | exact hq | exact .tail _ hq | exact .tail _ (.tail _ hq) | exact .tail _ (.tail _ (.tail _ hq)))).1) (by assumption)
-- part A9
theorem ev_ok (w : World) (e : St) (r : Rw) (ok : Rok w r) : ∀ x : Ex, EvOk w e r x := by
  intro x
  induction x with
  | int n =>
    intro s v hx hf
    cases hx with
    | int ht => exact (evheadC_ok w e r ok (by rfl) s ht fun s' k => (evconst_ok w e r ok n s' (k _ _ ht)).mono (Nat.le_refl _) (lit0_sub w e r)).mono (by simp [Ex.depth]) (fun q hq => hq)
  | var x =>
    intro s v hx hf
    cases hx with
    | var ht => exact (evheadP_ok w e r ok (by rfl) s ht fun s' k => (evplace_ok w e r ok x s' (k _ _ ht)).mono (Nat.le_refl _) (litx_sub w e r x)).mono (by simp [Ex.depth]) (fun q hq => hq)
  | bin o x y ih1 ih2 =>
    intro s v hx hf
    obtain ⟨f1, f2, f3⟩ := hf
    cases hx with
    | bin ht hu hv => exact (evheadB_ok w e r ok (by cases o <;> rfl) s ht fun s' k => evbin_ok w e r ok o x y ih1 ih2 f1 f2 f3 s' (k _ _ ht) (hu.keeps k) (hv.keeps k)).mono (by simp [Ex.depth]; omega) (fun q hq => hq)
set_option maxHeartbeats 8000000 in
theorem reckonle_ok (w : World) (r : Rw) (ok : Rok w r) (x y : Int) (s : Shared) {t1 t2 t3 t4 : Tok} :
    Does w 388 9 [.ref r.run, .str (Str.ofString "le") t1, .int 0 t2, .int x t3, .int y t4] s (lit0 w r) (fun _ v => v = .bool (decide (x ≤ y))) := by
  rcases Int.lt_trichotomy x y with hxy | hxy | hxy <;> (
  intro loose mean mg mb dp un gd cn cs a ccd cl outer A₀ base h₀ L m Q E C N hd hret
  have ⟨oke, okel, oko, okol, okf, okfl⟩ := ok
  dsimp only [lit0] at N
  w_top off
  have X0 := C.X; revert X0; k_fill; intro X0
  (refine wpAny_call ?_; k_dflt (refine' enter _ ?k1 ?k2 ?k3 ?k4 ?k5 ?kA ?kF ?kK ?k6 ?k7 ?k8 ?k9 ?kB ?_ ?c2 ?c3 ?c4 ?c5; (case kA => exact rfl); (case kF => exact rfl); (case kK => exact Cx.k (by assumption)); (case k1 => exact Cx.B (by assumption)); (case k2 => exact Cx.F (by assumption)); (case k3 => exact Cx.X (by assumption)); (case k4 => assumption); (case k5 => exact Cx.T (by assumption)); (case k6 => k_is); (case k7 => k_is); (case k8 => k_room); (case k9 => exact BindsTo.of_eq rfl); (case c5 => decide); (case kB => exact locs rfl); (case c2 => exact rfl); (case c3 => exact rfl); (case c4 => exact rfl); k_whole))
  intro g' L' h' hg FG' F' N' B' X' T'
  clear hg N
  (try dsimp only)
  (with_reducible show wpAny _ _ _ _ _ _)
  k_fold
  k_with_none
  k_with "k_room" => (((try simp only [depth_mark, depth_under_make, depth_under_kw, depth_in1, depth_deeper, depth_caller]); (try dsimp only [ktrTop]); (try simp only [recursionLimit]); (first | exact rmk (by assumption) (by exact Nat.le_of_ble_eq_true rfl) | exact rmk1 (by assumption) (by exact Nat.le_of_ble_eq_true rfl) | exact rmk2 (by assumption) (by exact Nat.le_of_ble_eq_true rfl) | exact rmk3 (by assumption) (by exact Nat.le_of_ble_eq_true rfl) | exact rmk4 (by assumption) (by exact Nat.le_of_ble_eq_true rfl) | exact rmk0 (by assumption) | omega)))
  k_with "k_mem" => ((change (_ ∈ (_ : List (Addr × Obj))); ktr_member))
  k_with "k_mem" => (((change (_ ∈ ((_ ++ _) : List (Addr × Obj)))); first | (refine List.mem_append.mpr (Or.inl ?_); k_mem) | (refine List.mem_append.mpr (Or.inr ?_); k_mem)))
  k_with "binaryOp LShift int int" => (((refine lshift_int_small (by decide) (by decide) (by decide) ?_); rw [show ((1:Int) * 2 ^ ((32:Int) - 1).toNat) = 2147483648 from rfl]))
  k_with "storeName" => (k_dflt (refine' storeX_any ?F ?N ?_ ?a ?b; (case F => k_asm); (case N => k_asm); (case a => rfl); (case b => rfl); k_whole); intro h' tk' F' N'; (try k_sweep))
  k_with "eval Call Name cons nil" => (refine Call_ ?_)
  k_with "eval Call Attribute cons nil" => (refine MethodCall_ ?_)
  k_with "spliced" => (first | ((with_reducible show wpAny _ _ (spliced (backTo _ (starEach (PySem.Expr.Name _ _ :: _) _))) _ _ _); k_dflt (refine' args_loc ?F ?v ?a ?b ?c ?_; (case F => k_asm); (case a => rfl); (case b => rfl); (case v => rfl); (case c => decide))) | ((with_reducible show wpAny _ _ (spliced (backTo _ (starEach (PySem.Expr.Constant (Const.int _) _ _ :: _) _))) _ _ _); refine args_int ?_) | ((with_reducible show wpAny _ _ (spliced (backTo _ (starEach (PySem.Expr.Constant (Const.str _) _ _ :: _) _))) _ _ _); refine args_str ?_))
  k_with "eval Attribute Name" => (k_dflt (refine' attr_loc ?F ?v ?a ?b ?c ?_; (case F => k_asm); (case a => rfl); (case b => rfl); (case v => rfl); (case c => decide)))
  k_with "eval Subscript" => (first | ((with_reducible show wpAny _ _ (eval (PySem.Expr.Subscript (PySem.Expr.Name _ _) (PySem.Expr.Constant (Const.int _) _ _) _) _) _ _ _); k_dflt (refine' sub_loc_int ?F ?v ?a ?b ?c ?_; (case F => k_asm); (case a => rfl); (case b => rfl); (case v => rfl); (case c => decide))) | ((with_reducible show wpAny _ _ (eval (PySem.Expr.Subscript (PySem.Expr.Name _ _) _ _) _) _ _ _); k_dflt (refine' sub_loc ?F ?v ?a ?b ?c ?_; (case F => k_asm); (case a => rfl); (case b => rfl); (case v => rfl); (case c => decide))))
  k_with "ite" => first | (refine PySem.W.ite_neg (by (first | omega | (simp only [decide_eq_true_eq, beq_iff_eq]; omega))) ?_) | (refine PySem.W.ite_pos (by (first | omega | (simp only [decide_eq_true_eq, beq_iff_eq]; omega))) ?_)
  repeat (first | (k_unfold; (try dsimp only)) | (k_end; wrow_close) | walk1 | (dsimp only; walk1) | (leave1; (try dsimp only)) | fail "no step")
  refine fun H => hret _ _ _ (H fun q hq => ((by k_asm : News h₀ L _ _) q (by first | exact hq | exact .tail _ hq | exact .tail _ (.tail _ hq) | exact .tail _ (.tail _ (.tail _ hq)))).1) (congrArg Value.bool (by first | (rw [decide_eq_true (show x ≤ y by omega)]; (first | rfl | decide)) | (rw [decide_eq_false (show ¬ x ≤ y by omega)]; (first | rfl | decide)))))
-- part A10
set_option maxHeartbeats 8000000 in
theorem evcmp_ok (w : World) (e : St) (r : Rw) (ok : Rok w r) (x : Var) (n : Int) (s : Shared) {x0 c : Addr} {k : Int} {t1 t2 t3 t4 t5 : Tok} {v : Value} (ht : s.heap.get? x0 = some (tup [.str (Str.ofString "le") t1, .int k t2, .ref c, v]))
    (hc : s.heap.get? c = some (tup [.str (Str.ofString "var") t3, .int 0 t4, .str (Str.ofString x.name) t5])) (hv : ExAt s.heap v (.int n)) :
    Does w 402 18 [.ref r.run, .ref x0] s (lit w e r) (fun _ v => v = .bool (decide (e.get x ≤ n))) := by
  intro loose mean mg mb dp un gd cn cs a ccd cl outer A₀ base h₀ L m Q E C N hd hret
  have hl := lit_leads (e := e) ok
  have ⟨oke, okel, oko, okol, okf, okfl⟩ := ok
  dsimp only [lit] at N hl
  w_top off
  have X0 := C.X; revert X0; k_fill; intro X0
  (refine wpAny_call ?_; k_dflt (refine' enter _ ?k1 ?k2 ?k3 ?k4 ?k5 ?kA ?kF ?kK ?k6 ?k7 ?k8 ?k9 ?kB ?_ ?c2 ?c3 ?c4 ?c5; (case kA => exact rfl); (case kF => exact rfl); (case kK => exact Cx.k (by assumption)); (case k1 => exact Cx.B (by assumption)); (case k2 => exact Cx.F (by assumption)); (case k3 => exact Cx.X (by assumption)); (case k4 => assumption); (case k5 => exact Cx.T (by assumption)); (case k6 => k_is); (case k7 => k_is); (case k8 => k_room); (case k9 => exact BindsTo.of_eq rfl); (case c5 => decide); (case kB => exact locs rfl); (case c2 => exact rfl); (case c3 => exact rfl); (case c4 => exact rfl); k_whole))
  intro g' L' h' hg FG' F' N' B' X' T'
  have hx := hg _ _ ht (not_in N ht rfl hl)
  have h9 : IsTup g' x0 #[.str (Str.ofString "le") t1, .int k t2, .ref c, v] := ⟨_, hx, rfl, 0, rfl⟩
  have h8 : IsTup g' c #[.str (Str.ofString "var") t3, .int 0 t4, .str (Str.ofString x.name) t5] := ⟨_, hg _ _ hc (not_in N hc rfl hl), rfl, 0, rfl⟩
  have hK := keepAll hg N
  clear hg hl N
  (try dsimp only)
  (with_reducible show wpAny _ _ _ _ _ _)
  k_fold
  k_with_none
  k_with "k_room" => (((try simp only [depth_mark, depth_under_make, depth_under_kw, depth_in1, depth_deeper, depth_caller]); (try dsimp only [ktrTop]); (try simp only [recursionLimit]); (first | exact rmk (by assumption) (by exact Nat.le_of_ble_eq_true rfl) | exact rmk1 (by assumption) (by exact Nat.le_of_ble_eq_true rfl) | exact rmk2 (by assumption) (by exact Nat.le_of_ble_eq_true rfl) | exact rmk3 (by assumption) (by exact Nat.le_of_ble_eq_true rfl) | exact rmk4 (by assumption) (by exact Nat.le_of_ble_eq_true rfl) | exact rmk0 (by assumption) | omega)))
  k_with "k_mem" => ((change (_ ∈ (_ : List (Addr × Obj))); ktr_member))
  k_with "k_mem" => (((change (_ ∈ ((_ ++ _) : List (Addr × Obj)))); first | (refine List.mem_append.mpr (Or.inl ?_); k_mem) | (refine List.mem_append.mpr (Or.inr ?_); k_mem)))
  k_with "binaryOp LShift int int" => (((refine lshift_int_small (by decide) (by decide) (by decide) ?_); rw [show ((1:Int) * 2 ^ ((32:Int) - 1).toNat) = 2147483648 from rfl]))
  k_with "storeName" => (k_dflt (refine' storeX_any ?F ?N ?_ ?a ?b; (case F => k_asm); (case N => k_asm); (case a => rfl); (case b => rfl); k_whole); intro h' tk' F' N'; (try k_sweep))
  k_with "eval Call Name cons nil" => (refine Call_ ?_)
  k_with "eval Call Attribute cons nil" => (refine MethodCall_ ?_)
  k_with "spliced" => (first | ((with_reducible show wpAny _ _ (spliced (backTo _ (starEach (PySem.Expr.Name _ _ :: _) _))) _ _ _); k_dflt (refine' args_loc ?F ?v ?a ?b ?c ?_; (case F => k_asm); (case a => rfl); (case b => rfl); (case v => rfl); (case c => decide))) | ((with_reducible show wpAny _ _ (spliced (backTo _ (starEach (PySem.Expr.Constant (Const.int _) _ _ :: _) _))) _ _ _); refine args_int ?_) | ((with_reducible show wpAny _ _ (spliced (backTo _ (starEach (PySem.Expr.Constant (Const.str _) _ _ :: _) _))) _ _ _); refine args_str ?_))
  k_with "eval Attribute Name" => (k_dflt (refine' attr_loc ?F ?v ?a ?b ?c ?_; (case F => k_asm); (case a => rfl); (case b => rfl); (case v => rfl); (case c => decide)))
  k_with "eval Subscript" => (first | ((with_reducible show wpAny _ _ (eval (PySem.Expr.Subscript (PySem.Expr.Name _ _) (PySem.Expr.Constant (Const.int _) _ _) _) _) _ _ _); k_dflt (refine' sub_loc_int ?F ?v ?a ?b ?c ?_; (case F => k_asm); (case a => rfl); (case b => rfl); (case v => rfl); (case c => decide))) | ((with_reducible show wpAny _ _ (eval (PySem.Expr.Subscript (PySem.Expr.Name _ _) _ _) _) _ _ _); k_dflt (refine' sub_loc ?F ?v ?a ?b ?c ?_; (case F => k_asm); (case a => rfl); (case b => rfl); (case v => rfl); (case c => decide))))
  k_with "subscriptTail Name Constant ref int" => (k_dflt (refine item_tupleT (IsTup.keeps (by assumption) (Fr.keep (by k_asm))) (by decide) (by decide) rfl rfl ?_))
  k_with "subscriptTail Subscript Constant ref int" => (k_dflt (refine item_tupleT (IsTup.keeps h8 (Fr.keep (by k_asm))) (by decide) (by decide) rfl rfl ?_))
  k_with "call ref cons nil" => first | (k_dflt (refine Does.use (by k_asm) (by k_asm) (by k_asm) (by k_asm) (by exact rfl) (by k_asm) ((ev_ok w e r ok (.var x) _ (.ref c) (.var ((hK _ (Fr.keep (by k_asm)) (fun q hq => ((by k_asm : News g' L' _ _) q (by first | exact hq | exact .tail _ hq | exact .tail _ (.tail _ hq) | exact .tail _ (.tail _ (.tail _ hq)))).1)) _ _ hc)) trivial).mono (nd' := 14) (Nat.le_refl _) (fun q hq => hq)) (by first | exact fun q hq => hq | exact fun q hq => hq | exact fun q hq => .tail _ hq | exact fun q hq => .tail _ (.tail _ hq) | exact fun q hq => .tail _ (.tail _ (.tail _ hq))) (by ((try simp only [depth_mark, depth_deeper]); (try dsimp only [ktrTop]); (first | exact rmk (by assumption) (by exact Nat.le_of_ble_eq_true rfl) | exact rmk1 (by assumption) (by exact Nat.le_of_ble_eq_true rfl) | exact rmk2 (by assumption) (by exact Nat.le_of_ble_eq_true rfl) | exact rmk3 (by assumption) (by exact Nat.le_of_ble_eq_true rfl) | exact rmk4 (by assumption) (by exact Nat.le_of_ble_eq_true rfl) | exact rmk0 (by assumption) | omega))) ?_); intro v9 h9' tk9 F9 N9 kp9 e9; obtain ⟨t9, e9⟩ := e9; subst e9) | (k_dflt (refine Does.use (by k_asm) (by k_asm) (by k_asm) (by k_asm) (by exact rfl) (by k_asm) ((ev_ok w e r ok (.int n) _ v (hv.keeps (hK _ (Fr.keep (by k_asm)) (fun q hq => ((by k_asm : News g' L' _ _) q (by first | exact hq | exact .tail _ hq | exact .tail _ (.tail _ hq) | exact .tail _ (.tail _ (.tail _ hq)))).1))) trivial).mono (nd' := 14) (Nat.le_refl _) (fun q hq => hq)) (by first | exact fun q hq => hq | exact fun q hq => hq | exact fun q hq => .tail _ hq | exact fun q hq => .tail _ (.tail _ hq) | exact fun q hq => .tail _ (.tail _ (.tail _ hq))) (by ((try simp only [depth_mark, depth_deeper]); (try dsimp only [ktrTop]); (first | exact rmk (by assumption) (by exact Nat.le_of_ble_eq_true rfl) | exact rmk1 (by assumption) (by exact Nat.le_of_ble_eq_true rfl) | exact rmk2 (by assumption) (by exact Nat.le_of_ble_eq_true rfl) | exact rmk3 (by assumption) (by exact Nat.le_of_ble_eq_true rfl) | exact rmk4 (by assumption) (by exact Nat.le_of_ble_eq_true rfl) | exact rmk0 (by assumption) | omega))) ?_); intro v9 h9' tk9 F9 N9 kp9 e9; obtain ⟨t9, e9⟩ := e9; subst e9) | (k_dflt (refine Does.use (by k_asm) (by k_asm) (by k_asm) (by k_asm) (by exact rfl) (by k_asm) ((reckonle_ok w r ok _ _ _).mono (Nat.le_refl _) (lit0_sub w e r)) (by first | exact fun q hq => hq | exact fun q hq => hq | exact fun q hq => .tail _ hq | exact fun q hq => .tail _ (.tail _ hq) | exact fun q hq => .tail _ (.tail _ (.tail _ hq))) (by ((try simp only [depth_mark, depth_deeper]); (try dsimp only [ktrTop]); (first | exact rmk (by assumption) (by exact Nat.le_of_ble_eq_true rfl) | exact rmk1 (by assumption) (by exact Nat.le_of_ble_eq_true rfl) | exact rmk2 (by assumption) (by exact Nat.le_of_ble_eq_true rfl) | exact rmk3 (by assumption) (by exact Nat.le_of_ble_eq_true rfl) | exact rmk4 (by assumption) (by exact Nat.le_of_ble_eq_true rfl) | exact rmk0 (by assumption) | omega))) ?_); intro v9 h9' tk9 F9 N9 kp9 e9; subst e9)
  repeat (first | (k_unfold; (try dsimp only)) | (k_end; wrow_close) | walk1 | (dsimp only; walk1) | (leave1; (try dsimp only)) | fail "no step")
  refine fun H => hret _ _ _ (H fun q hq => ((by k_asm : News h₀ L _ _) q (by first | exact hq | exact .tail _ hq | exact .tail _ (.tail _ hq) | exact .tail _ (.tail _ (.tail _ hq)))).1) rfl
theorem evle_ok (w : World) (e : St) (r : Rw) (ok : Rok w r) (x : Var) (n : Int) (s : Shared) {x0 c : Addr} {k : Int} {t1 t2 t3 t4 t5 : Tok} {v : Value} (ht : s.heap.get? x0 = some (tup [.str (Str.ofString "le") t1, .int k t2, .ref c, v]))
    (hc : s.heap.get? c = some (tup [.str (Str.ofString "var") t3, .int 0 t4, .str (Str.ofString x.name) t5])) (hv : ExAt s.heap v (.int n)) :
    Does w 341 20 [.ref r.run, .ref x0] s (lit w e r) (fun _ v => v = .bool (decide (e.get x ≤ n))) :=
  evheadL_ok w e r ok (by rfl) s ht fun s' k => evcmp_ok w e r ok x n s' (k _ _ ht) (k _ _ hc) (hv.keeps k)
-- part A11
/-- the ledger bears the tree at v -/
inductive ExIn (led : List (Addr × Obj)) : Value → Ex → Prop
  | int {a : Addr} {t1 t2 t3 : Tok} {n : Int} : (a, tup [.str (Str.ofString "const") t1, .int 0 t2, .int n t3]) ∈ led → ExIn led (.ref a) (.int n)
  | var {a : Addr} {t1 t2 t3 : Tok} {x : Var} : (a, tup [.str (Str.ofString "var") t1, .int 0 t2, .str (Str.ofString x.name) t3]) ∈ led → ExIn led (.ref a) (.var x)
  | bin {a : Addr} {t1 t2 : Tok} {o : Bop} {u v : Value} {l r : Ex} : (a, tup [.str (Str.ofString o.word) t1, .int 0 t2, u, v]) ∈ led → ExIn led u l → ExIn led v r → ExIn led (.ref a) (.bin o l r)
theorem ExIn.mono {led led' : List (Addr × Obj)} (k : ∀ p ∈ led, p ∈ led') {v : Value} {e : Ex} (x : ExIn led v e) : ExIn led' v e := by
  induction x with
  | int q => exact .int (k _ q)
  | var q => exact .var (k _ q)
  | bin q _ _ a b => exact .bin (k _ q) a b
theorem ExIn.at' {led : List (Addr × Obj)} {h₀ h : Heap} {L : Addr} (N : News h₀ L h led) {v : Value} {e : Ex} (x : ExIn led v e) : ExAt h v e := by
  induction x with
  | int q => exact .int (N _ q).1
  | var q => exact .var (N _ q).1
  | bin q _ _ a b => exact .bin (N _ q).1 a b
/-- a call that makes things, turns none, and tells what it made -/
noncomputable def Makes (w : World) (f : Addr) (nd : Nat) (vs : List Value) (s : Shared) (P : List (Addr × Obj) → Value → Prop) : Prop :=
  ∀ (loose : List Str) (mean : ExcName → Option Value) (mg mb : Str → Option Value) (dp un : Nat) (gd : Option (List Code)) (cn : Str) (cs : Scope) (a : Addr) (ccd : Value) (cl : List (Str × Addr)) (outer : List Env) (A₀ : Around) (base h₀ : Heap) (L : Addr) (m : Str → Option Value) (Q E : Value → Shared → Prop),
    Cx w loose mean mg mb dp un gd cn cs a ccd cl outer A₀ base h₀ L m s → dp + nd < 1000 →
    (∀ v h' tk' tl, (∀ b o, s.heap.get? b = some o → h'.get? b = some o) → News h₀ L h' tl → (∀ p ∈ tl, s.heap.get? p.1 = none) → P tl v → Q v { s with heap := h', toks := tk' }) →
    wpAny (model PySem.Challenge.rw_zu0017_01.row.prog w) (ktrTop dp un gd cn cs L a ccd cl outer) (call (.ref f) vs) Q E s
theorem Makes.use {w : World} {f : Addr} {nd : Nat} {vs : List Value} {s : Shared} {news : List (Addr × Obj)} {P : List (Addr × Obj) → Value → Prop}
    {loose : List Str} {mean : ExcName → Option Value} {mg mb : Str → Option Value} {dp un : Nat} {gd : Option (List Code)} {cn : Str} {cs : Scope} {a : Addr} {ccd : Value} {cl : List (Str × Addr)} {outer : List Env} {A₀ : Around} {base h₀ : Heap} {L : Addr} {m : Str → Option Value} {Q E : Value → Shared → Prop}
    (B : Below A₀ base outer h₀) (F : Fr h₀ L s.heap m) (X : (Mine.hd.heap_1_39 w.params).In h₀) (T : Top Mine.hd.view_1_40 loose mean mg mb h₀) (k : cs.kind = .function) (N : News h₀ L s.heap news)
    (D : Makes w f nd vs s P) (hd : dp + nd < 1000)
    (ret : ∀ v h' tk' tl, Fr h₀ L h' m → News h₀ L h' (tl ++ news) → (∀ p ∈ tl, ∀ q ∈ news, p.1 ≠ q.1) → (∀ p ∈ tl ++ news, p.1 < h'.objs.size) → P tl v → Q v { s with heap := h', toks := tk' }) :
    wpAny (model PySem.Challenge.rw_zu0017_01.row.prog w) (ktrTop dp un gd cn cs L a ccd cl outer) (call (.ref f) vs) Q E s :=
  D _ _ _ _ _ _ _ _ _ _ _ _ _ _ _ _ _ _ _ _ ⟨B, F, X, T, k⟩ hd fun v h' tk' tl kp hN hfr hp => ret v h' tk' tl (F.keeps kp) (fun q hq => (List.mem_append.mp hq).elim (hN q) fun hq => ⟨kp _ _ (N q hq).1, (N q hq).2⟩) (fun p hp q hq e => by have := hfr p hp; rw [e, (N q hq).1] at this; cases this) (fun q hq => (List.mem_append.mp hq).elim (fun hq => Heap.lt_size (hN q hq).1) fun hq => Heap.lt_size (kp _ _ (N q hq).1)) hp
theorem words_item {prog : Program} {w : World} {A : Around} {E : Value → Shared → Prop} {s : Shared} {h₀ : Heap} {L d : Addr} {news : List (Addr × Obj)} {od : Obj} {o : Bop} {value slice : PySem.Expr} {t t2 t4 t6 t8 : Tok} {Q : Value → Shared → Prop}
    (N : News h₀ L s.heap news) (hp : (d, od) ∈ news) (hd : od.IsDictOf (PySem.strKind prog w) [(Str.ofString "+", .str (Str.ofString "add") t2), (Str.ofString "-", .str (Str.ofString "sub") t4), (Str.ofString "*", .str (Str.ofString "mul") t6), (Str.ofString "/", .str (Str.ofString "div") t8)])
    (h : ∀ t, Q (.str (Str.ofString o.word) t) { s with toks := s.toks + 1 })
    (hs : subscripted slice false (.ref d) (.str (Str.ofString o.sym) t) = operate [.ref d, .str (Str.ofString o.sym) t] (getItem (.ref d) (.str (Str.ofString o.sym) t))) :
    wpAny (model prog w) A (subscriptTail value slice (.ref d) (.str (Str.ofString o.sym) t)) Q E s := by
  have hD := kda_dict N hp hd
  obtain ⟨t9, hv⟩ : ∃ t, valueAt [(Str.ofString "+", Value.str (Str.ofString "add") t2), (Str.ofString "-", .str (Str.ofString "sub") t4), (Str.ofString "*", .str (Str.ofString "mul") t6), (Str.ofString "/", .str (Str.ofString "div") t8)] (Str.ofString o.sym) = some (.str (Str.ofString o.word) t) := by cases o <;> exact ⟨_, rfl⟩
  exact tail_any hD.typeIs slot_dict_getitem.lookup (wpAny_getItem_of (strKind_is _ _ _ _) hD.mapOf hv (h _)) hs
theorem fresh_of {h g h' : Heap} {L : Addr} {tl : List (Addr × Obj)} (hg : ∀ b o, h.get? b = some o → g.get? b = some o) (N : News g L h' tl) : ∀ p ∈ tl, h.get? p.1 = none := fun p hp => by
  cases e : h.get? p.1 with
  | none => rfl
  | some o => have := hg _ _ e; rw [(N p hp).2.2] at this; cases this
/-- a loop over a range of any step, by what holds of it -/
theorem step_inv {prog : Program} {w : World} {A : Around} {E : Value → Shared → Prop} {s : Shared} {env : Env} {h₀ : Heap} {x : Str} {body : List Stmt} {Q : Flow → Shared → Prop} {r : Addr} {a₀ b₀ c : Int} {t₀ u₀ v₀ : Tok} {n : Nat} {m₀ : Str → Option Value} {news : List (Addr × Obj)} (J : Nat → (Str → Option Value) → List (Addr × Obj) → Prop)
    (hh : A.handled = none) (hr : IsRange s.heap r a₀ b₀ c t₀ u₀ v₀) (hsmall : Builtin.Range.small a₀ b₀ c = true) (hn : Builtin.Range.rangeSize a₀ b₀ c = (n : Int)) (F : Fr h₀ env.locals s.heap m₀) (N : News h₀ env.locals s.heap news) (hj : J 0 m₀ news)
    (turn : ∀ i t m₁ nx h tk own, i < n → TbOff own nx → J i m₁ nx → Fr h₀ env.locals h (fun y => if y = x then some (.int (a₀ + (i : Int) * c) t) else m₁ y) → News h₀ env.locals h (nx ++ own) →
      wpAny (model prog w) A (execs body env) (TbPost h₀ env.locals (J (i + 1)) own { s with heap := h, toks := tk } Q) E { s with heap := h, toks := tk })
    (done : ∀ m₁ nx h tk, J n m₁ nx → Fr h₀ env.locals h m₁ → News h₀ env.locals h nx → Q .next { s with heap := h, toks := tk }) :
    wpAny (model prog w) A (pyIter (.ref r)) (fun it s₂ => LoopAtV prog w A h₀ env x body Q E it s₂) E s := by
  refine wpAny_pyIter_range hr hsmall ?_
  refine tbr_loop (P := fun i v => i < n ∧ ∃ t, v = .int (a₀ + i * c) t) (St := fun i h => IsRangeIter h s.heap.objs.size (a₀ + (i : Nat) * c) ((n : Int) - (i : Nat)) c) J (Walks.range hh _ a₀ c n).bound (fun _ h => h) (fun _ h => h) ?_ ?_ ?_ ?_ (by show IsRangeIter _ _ _ _ _; rw [hn]; simpa using Heap.get?_push_size _ rfl) (F.push _) (fun p hp => ⟨Heap.get?_push_of_some _ (N p hp).1, (N p hp).2⟩) hj ?_ done
  · intro i h hi b hb
    rw [List.mem_singleton.mp hb]
    exact ⟨_, hi⟩
  · intro hm
    exact absurd F.ns.lt ((List.mem_singleton.mp hm) ▸ Nat.lt_irrefl _)
  · intro b hb
    rw [List.mem_singleton.mp hb]
    exact next_is_new F
  · intro p hp hI
    exact absurd (Heap.lt_size (N p hp).1) ((List.mem_singleton.mp hI) ▸ Nat.lt_irrefl _)
  · rintro i v m₁ nx h tk own hi ⟨_, t, rfl⟩ hoff hJ F₁ N₁
    exact turn i t m₁ nx h tk own hi hoff hJ F₁ N₁
/-- what _law_tree makes of a value -/
noncomputable def TrAt (w : World) (s : Shared) (nd : Nat) (v : Value) (e : Ex) : Prop := ∀ s' : Shared, (∀ b o, s.heap.get? b = some o → s'.heap.get? b = some o) → Makes w 717 nd [v] s' (fun tl r => ExIn tl r e)
-- part A12
set_option maxHeartbeats 8000000 in
theorem trvar_ok (w : World) (s : Shared) (x : Var) (t : Tok) : TrAt w s 2 (.str (Str.ofString x.name) t) (.var x) := by
  intro s' kk loose mean mg mb dp un gd cn cs a ccd cl outer A₀ base h₀ L m Q E C hd hret
  w_top off
  have X0 := C.X; revert X0; k_fill; intro X0
  have N : News h₀ L s'.heap [] := fun _ h => nomatch h
  (refine wpAny_call ?_; k_dflt (refine' enter _ ?k1 ?k2 ?k3 ?k4 ?k5 ?kA ?kF ?kK ?k6 ?k7 ?k8 ?k9 ?kB ?_ ?c2 ?c3 ?c4 ?c5; (case kA => exact rfl); (case kF => exact rfl); (case kK => exact Cx.k (by assumption)); (case k1 => exact Cx.B (by assumption)); (case k2 => exact Cx.F (by assumption)); (case k3 => exact Cx.X (by assumption)); (case k4 => assumption); (case k5 => exact Cx.T (by assumption)); (case k6 => k_is); (case k7 => k_is); (case k8 => k_room); (case k9 => exact BindsTo.of_eq rfl); (case c5 => decide); (case kB => exact locs rfl); (case c2 => exact rfl); (case c3 => exact rfl); (case c4 => exact rfl); k_whole))
  intro g' L' h' hg FG' F' N' B' X' T'
  have hgg : ∀ b o, s'.heap.get? b = some o → g'.get? b = some o := fun b o e => hg b o e (by simp)
  (try dsimp only)
  (with_reducible show wpAny _ _ _ _ _ _)
  k_fold
  clear hg
  k_with_none
  k_with "k_room" => (((try simp only [depth_mark, depth_under_make, depth_under_kw, depth_in1, depth_deeper, depth_caller]); (try dsimp only [ktrTop]); (try simp only [recursionLimit]); (first | exact rmk (by assumption) (by exact Nat.le_of_ble_eq_true rfl) | exact rmk1 (by assumption) (by exact Nat.le_of_ble_eq_true rfl) | exact rmk2 (by assumption) (by exact Nat.le_of_ble_eq_true rfl) | exact rmk3 (by assumption) (by exact Nat.le_of_ble_eq_true rfl) | exact rmk4 (by assumption) (by exact Nat.le_of_ble_eq_true rfl) | exact rmk0 (by assumption) | omega)))
  k_with "k_mem" => ((change (_ ∈ (_ : List (Addr × Obj))); ktr_member))
  k_with "k_mem" => (((change (_ ∈ ((_ ++ _) : List (Addr × Obj)))); first | (refine List.mem_append.mpr (Or.inl ?_); k_mem) | (refine List.mem_append.mpr (Or.inr ?_); k_mem)))
  k_with "binaryOp LShift int int" => (((refine lshift_int_small (by decide) (by decide) (by decide) ?_); rw [show ((1:Int) * 2 ^ ((32:Int) - 1).toNat) = 2147483648 from rfl]))
  k_with "storeName" => (k_dflt (refine' storeX_any ?F ?N ?_ ?a ?b; (case F => k_asm); (case N => k_asm); (case a => rfl); (case b => rfl); k_whole); intro h' tk' F' N'; (try k_sweep))
  k_with "eval Call Name cons nil" => (refine Call_ ?_)
  k_with "eval Call Attribute cons nil" => (refine MethodCall_ ?_)
  k_with "spliced" => (first | ((with_reducible show wpAny _ _ (spliced (backTo _ (starEach (PySem.Expr.Name _ _ :: _) _))) _ _ _); k_dflt (refine' args_loc ?F ?v ?a ?b ?c ?_; (case F => k_asm); (case a => rfl); (case b => rfl); (case v => rfl); (case c => decide))) | ((with_reducible show wpAny _ _ (spliced (backTo _ (starEach (PySem.Expr.Constant (Const.int _) _ _ :: _) _))) _ _ _); refine args_int ?_) | ((with_reducible show wpAny _ _ (spliced (backTo _ (starEach (PySem.Expr.Constant (Const.str _) _ _ :: _) _))) _ _ _); refine args_str ?_))
  k_with "eval Attribute Name" => (k_dflt (refine' attr_loc ?F ?v ?a ?b ?c ?_; (case F => k_asm); (case a => rfl); (case b => rfl); (case v => rfl); (case c => decide)))
  k_with "eval Subscript" => (first | ((with_reducible show wpAny _ _ (eval (PySem.Expr.Subscript (PySem.Expr.Name _ _) (PySem.Expr.Constant (Const.int _) _ _) _) _) _ _ _); k_dflt (refine' sub_loc_int ?F ?v ?a ?b ?c ?_; (case F => k_asm); (case a => rfl); (case b => rfl); (case v => rfl); (case c => decide))) | ((with_reducible show wpAny _ _ (eval (PySem.Expr.Subscript (PySem.Expr.Name _ _) _ _) _) _ _ _); k_dflt (refine' sub_loc ?F ?v ?a ?b ?c ?_; (case F => k_asm); (case a => rfl); (case b => rfl); (case v => rfl); (case c => decide))))
  repeat (first | (k_unfold; (try dsimp only)) | (k_end; wrow_close) | walk1 | (dsimp only; walk1) | (leave1; (try dsimp only)) | fail "no step")
  refine fun H => hret _ _ _ _ (H fun _ h => nomatch h) (by k_asm) (fresh_of hgg (by k_asm)) (.var (by k_mem))
set_option maxHeartbeats 8000000 in
theorem trint_ok (w : World) (s : Shared) (n : Int) (t : Tok) : TrAt w s 2 (.int n t) (.int n) := by
  intro s' kk loose mean mg mb dp un gd cn cs a ccd cl outer A₀ base h₀ L m Q E C hd hret
  w_top off
  have X0 := C.X; revert X0; k_fill; intro X0
  have N : News h₀ L s'.heap [] := fun _ h => nomatch h
  (refine wpAny_call ?_; k_dflt (refine' enter _ ?k1 ?k2 ?k3 ?k4 ?k5 ?kA ?kF ?kK ?k6 ?k7 ?k8 ?k9 ?kB ?_ ?c2 ?c3 ?c4 ?c5; (case kA => exact rfl); (case kF => exact rfl); (case kK => exact Cx.k (by assumption)); (case k1 => exact Cx.B (by assumption)); (case k2 => exact Cx.F (by assumption)); (case k3 => exact Cx.X (by assumption)); (case k4 => assumption); (case k5 => exact Cx.T (by assumption)); (case k6 => k_is); (case k7 => k_is); (case k8 => k_room); (case k9 => exact BindsTo.of_eq rfl); (case c5 => decide); (case kB => exact locs rfl); (case c2 => exact rfl); (case c3 => exact rfl); (case c4 => exact rfl); k_whole))
  intro g' L' h' hg FG' F' N' B' X' T'
  have hgg : ∀ b o, s'.heap.get? b = some o → g'.get? b = some o := fun b o e => hg b o e (by simp)
  (try dsimp only)
  (with_reducible show wpAny _ _ _ _ _ _)
  k_fold
  clear hg
  repeat (first | (k_unfold; (try dsimp only)) | (k_end; wrow_close) | walk1 | (dsimp only; walk1) | (leave1; (try dsimp only)) | fail "no step")
  refine fun H => hret _ _ _ _ (H fun _ h => nomatch h) (by k_asm) (fresh_of hgg (by k_asm)) (.int (by k_mem))
-- part A13
noncomputable abbrev Ps := List (Bop × Tok × Value × Ex)
noncomputable def flat : Ps → List Value
  | [] => []
  | p :: r => .str (Str.ofString p.1.sym) p.2.1 :: p.2.2.1 :: flat r
noncomputable def foldE (e0 : Ex) (ps : Ps) : Ex := ps.foldl (fun acc p => .bin p.1 acc p.2.2.2) e0
theorem flat_len : ∀ ps : Ps, (flat ps).length = 2 * ps.length
  | [] => rfl
  | p :: r => by show (flat r).length + 1 + 1 = _; rw [flat_len r, List.length_cons]; lia
theorem flat_op : ∀ (ps : Ps) (i : Nat) {p : Bop × Tok × Value × Ex}, ps[i]? = some p → (flat ps)[2 * i]? = some (.str (Str.ofString p.1.sym) p.2.1)
  | [], _, _, h => by cases h
  | q :: r, 0, _, h => by cases h; rfl
  | q :: r, i + 1, _, h => by
    have := flat_op r i (by simpa using h)
    rw [show 2 * (i + 1) = 2 * i + 1 + 1 by lia]
    exact this
theorem flat_val : ∀ (ps : Ps) (i : Nat) {p : Bop × Tok × Value × Ex}, ps[i]? = some p → (flat ps)[2 * i + 1]? = some p.2.2.1
  | [], _, _, h => by cases h
  | q :: r, 0, _, h => by cases h; rfl
  | q :: r, i + 1, _, h => by
    have := flat_val r i (by simpa using h)
    rw [show 2 * (i + 1) + 1 = 2 * i + 1 + 1 + 1 by lia]
    exact this
theorem item_op {v0 : Value} {ps : Ps} {i : Nat} {p : Bop × Tok × Value × Ex} (h : ps[i]? = some p) : (v0 :: flat ps).toArray[((1 : Int) + (i : Int) * 2).toNat]? = some (.str (Str.ofString p.1.sym) p.2.1) := by
  rw [show ((1 : Int) + (i : Int) * 2).toNat = 2 * i + 1 by lia]
  simpa using flat_op ps i h
theorem item_val {v0 : Value} {ps : Ps} {i : Nat} {p : Bop × Tok × Value × Ex} (h : ps[i]? = some p) : (v0 :: flat ps).toArray[((1 : Int) + (i : Int) * 2 + 1).toNat]? = some p.2.2.1 := by
  rw [show ((1 : Int) + (i : Int) * 2 + 1).toNat = 2 * i + 1 + 1 by lia]
  simpa using flat_val ps i h
theorem foldE_succ {e0 : Ex} {ps : Ps} {i : Nat} {p : Bop × Tok × Value × Ex} (h : ps[i]? = some p) : foldE e0 (ps.take (i + 1)) = .bin p.1 (foldE e0 (ps.take i)) p.2.2.2 := by
  unfold foldE
  rw [List.take_add_one, h]
  simp
noncomputable def frT (a? : Option Value) (v : Value) (dw a0 : Addr) (y : Str) : Option Value :=
  if y = Str.ofString "at" then a? else if y = Str.ofString "found" then some v else if y = Str.ofString "words" then some (.ref dw) else if y = Str.ofString "x" then some (.ref a0) else none
noncomputable def TrInv (prog : Program) (w : World) (a0 : Addr) (e0 : Ex) (ps : Ps) (i : Nat) (m : Str → Option Value) (nx : List (Addr × Obj)) : Prop :=
  ∃ (a? : Option Value) (v : Value) (dw : Addr) (od : Obj) (t2 t4 t6 t8 : Tok), m = frT a? v dw a0 ∧ ExIn nx v (foldE e0 (ps.take i)) ∧ (dw, od) ∈ nx ∧
    od.IsDictOf (PySem.strKind prog w) [(Str.ofString "+", .str (Str.ofString "add") t2), (Str.ofString "-", .str (Str.ofString "sub") t4), (Str.ofString "*", .str (Str.ofString "mul") t6), (Str.ofString "/", .str (Str.ofString "div") t8)]
theorem frT_start {v : Value} {dw a0 : Addr} (y : Str) : (if y = Str.ofString "found" then some v else if y = Str.ofString "words" then some (.ref dw) else List.lookup y [(Str.ofString "x", Value.ref a0)]) = frT none v dw a0 y := by
  unfold frT
  by_cases h1 : y = Str.ofString "at"
  · subst h1; rfl
  · rw [if_neg h1]
    by_cases h2 : y = Str.ofString "found"
    · rw [if_pos h2, if_pos h2]
    · rw [if_neg h2, if_neg h2]
      by_cases h3 : y = Str.ofString "words"
      · rw [if_pos h3, if_pos h3]
      · rw [if_neg h3, if_neg h3]
        by_cases h4 : y = Str.ofString "x"
        · subst h4; rfl
        · rw [if_neg h4, List.lookup_cons, beq_eq_false_iff_ne.mpr h4]; rfl
theorem frT_next {a? : Option Value} {v v' : Value} {b : Value} {dw a0 : Addr} (y : Str) : (if y = Str.ofString "found" then some v' else if y = Str.ofString "at" then some b else frT a? v dw a0 y) = frT (some b) v' dw a0 y := by
  unfold frT
  by_cases h1 : y = Str.ofString "at"
  · subst h1; rfl
  · rw [if_neg h1]
    by_cases h2 : y = Str.ofString "found"
    · rw [if_pos h2, if_neg h1, if_pos h2]
    · simp only [if_neg h1, if_neg h2]
theorem tr_end {h₀ h' : Heap} {L q : Addr} {J : (Str → Option Value) → List (Addr × Obj) → Prop} {own nx tl : List (Addr × Obj)} {o : Obj} {m' : Str → Option Value} {s₁ : Shared} {tk : Nat}
    (F : Fr h₀ L h' m') (N : News h₀ L h' ((q, o) :: (tl ++ (nx ++ own)))) (lt : ∀ p ∈ tl ++ (nx ++ own), p.1 < q) (ap : ∀ p ∈ tl, ∀ q ∈ nx ++ own, p.1 ≠ q.1) (hoff : TbOff own nx) (hJ : J m' ((q, o) :: (tl ++ nx))) : TbEnd h₀ L J own s₁ { s₁ with heap := h', toks := tk } := by
  refine ⟨h', tk, m', _, _, rfl, F, N, fun p hp => ?_, fun p hp => ?_, fun p hp x hx => ?_, hJ⟩
  · rcases List.mem_cons.mp hp with rfl | hp
    · exact .head _
    · rcases List.mem_append.mp hp with hp | hp
      · exact List.mem_cons_of_mem _ (List.mem_append_left _ hp)
      · exact List.mem_cons_of_mem _ (List.mem_append_right _ (List.mem_append_left _ hp))
  · exact List.mem_cons_of_mem _ (List.mem_append_right _ (List.mem_append_right _ hp))
  · rcases List.mem_cons.mp hx with rfl | hx
    · exact Nat.ne_of_lt (lt p (List.mem_append_right _ (List.mem_append_right _ hp)))
    · rcases List.mem_append.mp hx with hx | hx
      · exact Ne.symm (ap x hx p (List.mem_append_right _ hp))
      · exact hoff p hp x hx
theorem size_two (n : Nat) : Builtin.Range.rangeSize 1 (1 + 2 * (n : Int)) 2 = (n : Int) := by
  unfold Builtin.Range.rangeSize
  rw [if_pos (by decide)]
  split <;> lia
theorem fits_long {x : Int} (h1 : 0 ≤ x) (h2 : x < 1000) : Builtin.Range.rangeFitsLong x = true := by
  unfold Builtin.Range.rangeFitsLong
  rw [Bool.and_eq_true]
  exact ⟨decide_eq_true (by lia), decide_eq_true (by lia)⟩
theorem small_two (n : Nat) (h1 : n ≤ 100) (h2 : 0 ≤ n) : Builtin.Range.small 1 (1 + 2 * (n : Int)) 2 = true := by
  unfold Builtin.Range.small
  rw [size_two, fits_long (by lia) (by lia), fits_long (by lia) (by lia), fits_long (by lia) (by lia), fits_long (by lia) (by lia), if_pos (by decide), fits_long (by lia) (by lia), Bool.or_true]
  rfl
theorem a63 {i n : Nat} (h : i < n) (s : n ≤ 100) : (1 : Int) + (i : Int) * 2 < 2 ^ 63 := by omega
theorem b63 {i n : Nat} (h : i < n) (s : n ≤ 100) : (1 : Int) + (i : Int) * 2 + 1 < 2 ^ 63 := by omega
theorem a00 {i : Nat} : (0 : Int) ≤ 1 + (i : Int) * 2 := by omega
theorem b00 {i : Nat} : (0 : Int) ≤ 1 + (i : Int) * 2 + 1 := by omega
theorem l63 {n : Nat} (s : n ≤ 100) : (1 : Int) + 2 * (n : Int) < 2 ^ 63 := by omega
set_option maxHeartbeats 8000000 in
theorem tr_ok (w : World) (s : Shared) {a0 : Addr} {nn nd : Nat} {v0 : Value} {e0 : Ex} (ps : Ps) (hlen : ps.length ≤ 100) (ht : s.heap.get? a0 = some (lstN (v0 :: flat ps) nn)) (D0 : TrAt w s nd v0 e0) (D : ∀ p ∈ ps, TrAt w s nd p.2.2.1 p.2.2.2) :
    TrAt w s (nd + 2) (.ref a0) (foldE e0 ps) := by
  have hsz : (((v0 :: flat ps).toArray.size : Nat) : Int) = 1 + 2 * (ps.length : Int) := by rw [List.size_toArray, List.length_cons, flat_len]; omega
  intro s' kk loose mean mg mb dp un gd cn cs a ccd cl outer A₀ base h₀ L m Q E C hd hret
  w_top off
  have X0 := C.X; revert X0; k_fill; intro X0
  have N : News h₀ L s'.heap [] := fun _ h => nomatch h
  (refine wpAny_call ?_; k_dflt (refine' enter _ ?k1 ?k2 ?k3 ?k4 ?k5 ?kA ?kF ?kK ?k6 ?k7 ?k8 ?k9 ?kB ?_ ?c2 ?c3 ?c4 ?c5; (case kA => exact rfl); (case kF => exact rfl); (case kK => exact Cx.k (by assumption)); (case k1 => exact Cx.B (by assumption)); (case k2 => exact Cx.F (by assumption)); (case k3 => exact Cx.X (by assumption)); (case k4 => assumption); (case k5 => exact Cx.T (by assumption)); (case k6 => k_is); (case k7 => k_is); (case k8 => k_room); (case k9 => exact BindsTo.of_eq rfl); (case c5 => decide); (case kB => exact locs rfl); (case c2 => exact rfl); (case c3 => exact rfl); (case c4 => exact rfl); k_whole))
  intro g' L' h' hg FG' F' N' B' X' T'
  have hgg : ∀ b o, s'.heap.get? b = some o → g'.get? b = some o := fun b o e => hg b o e (by simp)
  have hk9 : ∀ b o, s.heap.get? b = some o → g'.get? b = some o := fun b o e => hg b o (kk b o e) (by simp)
  have h9 : g'.IsList a0 (v0 :: flat ps).toArray := ⟨_, hk9 _ _ ht, rfl, nn, rfl⟩
  clear hg N
  (try dsimp only)
  (with_reducible show wpAny _ _ _ _ _ _)
  k_fold
  k_with_none
  k_with "k_room" => (((try simp only [depth_mark, depth_under_make, depth_under_kw, depth_in1, depth_deeper, depth_caller]); (try dsimp only [ktrTop]); (try simp only [recursionLimit]); (first | exact rmk (by assumption) (by exact Nat.le_of_ble_eq_true rfl) | exact rmk1 (by assumption) (by exact Nat.le_of_ble_eq_true rfl) | exact rmk2 (by assumption) (by exact Nat.le_of_ble_eq_true rfl) | exact rmk3 (by assumption) (by exact Nat.le_of_ble_eq_true rfl) | exact rmk4 (by assumption) (by exact Nat.le_of_ble_eq_true rfl) | exact rmk0 (by assumption) | omega)))
  k_with "k_mem" => ((change (_ ∈ (_ : List (Addr × Obj))); ktr_member))
  k_with "k_mem" => (((change (_ ∈ ((_ ++ _) : List (Addr × Obj)))); first | (refine List.mem_append.mpr (Or.inl ?_); k_mem) | (refine List.mem_append.mpr (Or.inr ?_); k_mem)))
  k_with "binaryOp LShift int int" => (((refine lshift_int_small (by decide) (by decide) (by decide) ?_); rw [show ((1:Int) * 2 ^ ((32:Int) - 1).toNat) = 2147483648 from rfl]))
  k_with "storeName" => (k_dflt (refine' storeX_any ?F ?N ?_ ?a ?b; (case F => k_asm); (case N => k_asm); (case a => rfl); (case b => rfl); k_whole); intro h' tk' F' N'; (try k_sweep))
  k_with "eval Call Name cons nil" => (refine Call_ ?_)
  k_with "eval Call Attribute cons nil" => (refine MethodCall_ ?_)
  k_with "spliced" => (first | ((with_reducible show wpAny _ _ (spliced (backTo _ (starEach (PySem.Expr.Name _ _ :: _) _))) _ _ _); k_dflt (refine' args_loc ?F ?v ?a ?b ?c ?_; (case F => k_asm); (case a => rfl); (case b => rfl); (case v => rfl); (case c => decide))) | ((with_reducible show wpAny _ _ (spliced (backTo _ (starEach (PySem.Expr.Constant (Const.int _) _ _ :: _) _))) _ _ _); refine args_int ?_) | ((with_reducible show wpAny _ _ (spliced (backTo _ (starEach (PySem.Expr.Constant (Const.str _) _ _ :: _) _))) _ _ _); refine args_str ?_))
  k_with "eval Attribute Name" => (k_dflt (refine' attr_loc ?F ?v ?a ?b ?c ?_; (case F => k_asm); (case a => rfl); (case b => rfl); (case v => rfl); (case c => decide)))
  k_with "eval Subscript" => (first | ((with_reducible show wpAny _ _ (eval (PySem.Expr.Subscript (PySem.Expr.Name _ _) (PySem.Expr.Constant (Const.int _) _ _) _) _) _ _ _); k_dflt (refine' sub_loc_int ?F ?v ?a ?b ?c ?_; (case F => k_asm); (case a => rfl); (case b => rfl); (case v => rfl); (case c => decide))) | ((with_reducible show wpAny _ _ (eval (PySem.Expr.Subscript (PySem.Expr.Name _ _) _ _) _) _ _ _); k_dflt (refine' sub_loc ?F ?v ?a ?b ?c ?_; (case F => k_asm); (case a => rfl); (case b => rfl); (case v => rfl); (case c => decide))))
  k_with "call builtin:isinstance cons nil" => (first | refine IsiPair.isList_str h9 (Fr.keep (by k_asm)) ?_ | refine IsiPair.isList_int h9 (Fr.keep (by k_asm)) ?_)
  k_with "ite" => (with_reducible first | refine PyProof.Rows.ite_ff ?_ | refine PyProof.Rows.ite_tt ?_)
  k_with "call builtin:len cons nil" => ((refine len_list (stays_list (Fr.keep (by k_asm)) h9) (by rw [hsz]; exact l63 hlen) ?_); rw [hsz])
  k_with "subscriptTail Name Constant ref int" => (k_dflt (refine item_list (stays_list (Fr.keep (by k_asm)) h9) (by decide) (by decide) rfl ?_))
  k_with "call ref cons nil" => (k_dflt (refine Makes.use (by k_asm) (by k_asm) (by k_asm) (by k_asm) (by exact rfl) (by k_asm) (D0 _ (fun b o e => Fr.keep (by k_asm) b o (hk9 b o e))) (by ((try simp only [depth_mark, depth_deeper]); (try dsimp only [ktrTop]); (first | exact rmk (by assumption) (by exact Nat.le_of_ble_eq_true rfl) | exact rmk1 (by assumption) (by exact Nat.le_of_ble_eq_true rfl) | exact rmk2 (by assumption) (by exact Nat.le_of_ble_eq_true rfl) | exact rmk3 (by assumption) (by exact Nat.le_of_ble_eq_true rfl) | exact rmk4 (by assumption) (by exact Nat.le_of_ble_eq_true rfl) | exact rmk0 (by assumption) | omega))) ?_); intro v9 h9' tk9 tl9 F9 N9 ap9 lt9 e9)
  repeat (first | (k_unfold; (try dsimp only)) | (k_end; wrow_close) | walk1 | (dsimp only; walk1) | (leave1; (try dsimp only)) | fail "no step")
  refine step_inv (n := ps.length) (fun i m nx => TrInv PySem.Challenge.rw_zu0017_01.row.prog w a0 e0 ps i m nx) (by rfl) (by assumption) (small_two _ hlen (Nat.zero_le _)) (size_two _) (by k_asm) (by k_asm) ?_ ?_ ?_
  · refine ⟨none, _, _, _, _, _, _, _, ?_, ExIn.mono (fun p hp => List.mem_append.mpr (.inl hp)) (by assumption), by k_mem, by assumption⟩
    funext y
    exact frT_start y
  · rintro i t m₁ nx h tk own hi hoff ⟨at?, v, dw, od, t2, t4, t6, t8, rfl, hv, hdm, hdd⟩ F5 N5
    obtain ⟨p, hp⟩ : ∃ p, ps[i]? = some p := ⟨ps[i], List.getElem?_eq_getElem hi⟩
    have hpm := List.mem_of_getElem? hp
    (with_reducible show wpAny _ _ _ _ _ _)
    k_fold
    k_with "subscriptTail Name Name ref int" => (k_dflt (refine item_list (stays_list (Fr.keep (by k_asm)) h9) a00 (a63 hi hlen) (item_op hp) ?_))
    k_with "subscriptTail Name BinOp ref int" => (k_dflt (refine item_list (stays_list (Fr.keep (by k_asm)) h9) b00 (b63 hi hlen) (item_val hp) ?_))
    k_with "subscriptTail Name Subscript ref str" => (k_dflt (refine words_item (by k_asm) (by k_mem) hdd ?_ (by with_unfolding_all rfl)); intro t9)
    k_with "call ref cons nil" => (k_dflt (refine Makes.use (by k_asm) (by k_asm) (by k_asm) (by k_asm) (by exact rfl) (by k_asm) (D p hpm _ (fun b o e => Fr.keep (by k_asm) b o (hk9 b o e))) (by ((try simp only [depth_mark, depth_deeper]); (try dsimp only [ktrTop]); (first | exact rmk (by assumption) (by exact Nat.le_of_ble_eq_true rfl) | exact rmk1 (by assumption) (by exact Nat.le_of_ble_eq_true rfl) | exact rmk2 (by assumption) (by exact Nat.le_of_ble_eq_true rfl) | exact rmk3 (by assumption) (by exact Nat.le_of_ble_eq_true rfl) | exact rmk4 (by assumption) (by exact Nat.le_of_ble_eq_true rfl) | exact rmk0 (by assumption) | omega))) ?_); intro v9 h9' tk9 tl9 F9 N9 ap9 lt9 e9)
    repeat (first | (k_unfold; (try dsimp only)) | (k_end; wrow_close) | walk1 | (dsimp only; walk1) | (leave1; (try dsimp only)) | fail "no step")
    refine tr_end (by k_asm) (by k_asm) lt9 ap9 hoff ⟨_, _, dw, od, t2, t4, t6, t8, funext frT_next, ?_, List.mem_cons_of_mem _ (List.mem_append_right _ hdm), hdd⟩
    rw [foldE_succ hp]
    exact .bin (.head _) (hv.mono fun q hq => List.mem_cons_of_mem _ (List.mem_append_right _ hq)) (e9.mono fun q hq => List.mem_cons_of_mem _ (List.mem_append_left _ hq))
  · rintro m₁ nx h tk ⟨at?, v, dw, od, t2, t4, t6, t8, rfl, hv, hdm, hdd⟩ F5 N5
    rw [List.take_length] at hv
    (with_reducible show wpAny _ _ _ _ _ _)
    repeat (first | (k_unfold; (try dsimp only)) | (k_end; wrow_close) | walk1 | (dsimp only; walk1) | (leave1; (try dsimp only)) | fail "no step")
    refine fun H => hret _ _ _ _ (H fun _ h => nomatch h) (by k_asm) (fresh_of hgg (by k_asm)) hv
-- part A14
/-- a row that sets a name -/
noncomputable def SetIn (led : List (Addr × Obj)) (v : Value) (x : Var) (e : Ex) : Prop :=
  ∃ (r0 s0 t0 : Addr) (ve : Value) (k1 k2 k3 k4 k5 : Tok), v = .ref r0 ∧ (r0, tup [.int 0 k1, .ref s0]) ∈ led ∧ (s0, tup [.str (Str.ofString "assign") k2, .ref t0, ve]) ∈ led ∧ (t0, tup [.str (Str.ofString "var") k3, .int 0 k4, .str (Str.ofString x.name) k5]) ∈ led ∧ ExIn led ve e
theorem SetIn.mono {led led' : List (Addr × Obj)} (k : ∀ p ∈ led, p ∈ led') {v : Value} {x : Var} {e : Ex} (h : SetIn led v x e) : SetIn led' v x e := by
  obtain ⟨r0, s0, t0, ve, k1, k2, k3, k4, k5, a, b, c, d, f⟩ := h
  exact ⟨r0, s0, t0, ve, k1, k2, k3, k4, k5, a, k _ b, k _ c, k _ d, f.mono k⟩
theorem TrAt.mono {w : World} {s : Shared} {nd nd' : Nat} {v : Value} {e : Ex} (h : TrAt w s nd v e) (hn : nd ≤ nd') : TrAt w s nd' v e := by
  intro s' kk loose mean mg mb dp un gd cn cs a ccd cl outer A₀ base h₀ L m Q E C hd hret
  exact h s' kk loose mean mg mb dp un gd cn cs a ccd cl outer A₀ base h₀ L m Q E C (by omega) hret
set_option maxHeartbeats 8000000 in
theorem set_ok (w : World) (s : Shared) (x : Var) (t : Tok) {nd : Nat} {v : Value} {e : Ex} (D : TrAt w s nd v e) : Makes w 724 (nd + 2) [.str (Str.ofString x.name) t, v] s (fun tl r => SetIn tl r x e) := by
  intro loose mean mg mb dp un gd cn cs a ccd cl outer A₀ base h₀ L m Q E C hd hret
  w_top off
  have X0 := C.X; revert X0; k_fill; intro X0
  have N : News h₀ L s.heap [] := fun _ h => nomatch h
  (refine wpAny_call ?_; k_dflt (refine' enter _ ?k1 ?k2 ?k3 ?k4 ?k5 ?kA ?kF ?kK ?k6 ?k7 ?k8 ?k9 ?kB ?_ ?c2 ?c3 ?c4 ?c5; (case kA => exact rfl); (case kF => exact rfl); (case kK => exact Cx.k (by assumption)); (case k1 => exact Cx.B (by assumption)); (case k2 => exact Cx.F (by assumption)); (case k3 => exact Cx.X (by assumption)); (case k4 => assumption); (case k5 => exact Cx.T (by assumption)); (case k6 => k_is); (case k7 => k_is); (case k8 => k_room); (case k9 => exact BindsTo.of_eq rfl); (case c5 => decide); (case kB => exact locs rfl); (case c2 => exact rfl); (case c3 => exact rfl); (case c4 => exact rfl); k_whole))
  intro g' L' h' hg FG' F' N' B' X' T'
  have hgg : ∀ b o, s.heap.get? b = some o → g'.get? b = some o := fun b o e => hg b o e (by simp)
  (try dsimp only)
  (with_reducible show wpAny _ _ _ _ _ _)
  k_fold
  k_with_none
  k_with "k_room" => (((try simp only [depth_mark, depth_under_make, depth_under_kw, depth_in1, depth_deeper, depth_caller]); (try dsimp only [ktrTop]); (try simp only [recursionLimit]); (first | exact rmk (by assumption) (by exact Nat.le_of_ble_eq_true rfl) | exact rmk1 (by assumption) (by exact Nat.le_of_ble_eq_true rfl) | exact rmk2 (by assumption) (by exact Nat.le_of_ble_eq_true rfl) | exact rmk3 (by assumption) (by exact Nat.le_of_ble_eq_true rfl) | exact rmk4 (by assumption) (by exact Nat.le_of_ble_eq_true rfl) | exact rmk0 (by assumption) | omega)))
  k_with "k_mem" => ((change (_ ∈ (_ : List (Addr × Obj))); ktr_member))
  k_with "k_mem" => (((change (_ ∈ ((_ ++ _) : List (Addr × Obj)))); first | (refine List.mem_append.mpr (Or.inl ?_); k_mem) | (refine List.mem_append.mpr (Or.inr ?_); k_mem)))
  k_with "binaryOp LShift int int" => (((refine lshift_int_small (by decide) (by decide) (by decide) ?_); rw [show ((1:Int) * 2 ^ ((32:Int) - 1).toNat) = 2147483648 from rfl]))
  k_with "storeName" => (k_dflt (refine' storeX_any ?F ?N ?_ ?a ?b; (case F => k_asm); (case N => k_asm); (case a => rfl); (case b => rfl); k_whole); intro h' tk' F' N'; (try k_sweep))
  k_with "eval Call Name cons nil" => (refine Call_ ?_)
  k_with "eval Call Attribute cons nil" => (refine MethodCall_ ?_)
  k_with "spliced" => (first | ((with_reducible show wpAny _ _ (spliced (backTo _ (starEach (PySem.Expr.Name _ _ :: _) _))) _ _ _); k_dflt (refine' args_loc ?F ?v ?a ?b ?c ?_; (case F => k_asm); (case a => rfl); (case b => rfl); (case v => rfl); (case c => decide))) | ((with_reducible show wpAny _ _ (spliced (backTo _ (starEach (PySem.Expr.Constant (Const.int _) _ _ :: _) _))) _ _ _); refine args_int ?_) | ((with_reducible show wpAny _ _ (spliced (backTo _ (starEach (PySem.Expr.Constant (Const.str _) _ _ :: _) _))) _ _ _); refine args_str ?_))
  k_with "eval Attribute Name" => (k_dflt (refine' attr_loc ?F ?v ?a ?b ?c ?_; (case F => k_asm); (case a => rfl); (case b => rfl); (case v => rfl); (case c => decide)))
  k_with "eval Subscript" => (first | ((with_reducible show wpAny _ _ (eval (PySem.Expr.Subscript (PySem.Expr.Name _ _) (PySem.Expr.Constant (Const.int _) _ _) _) _) _ _ _); k_dflt (refine' sub_loc_int ?F ?v ?a ?b ?c ?_; (case F => k_asm); (case a => rfl); (case b => rfl); (case v => rfl); (case c => decide))) | ((with_reducible show wpAny _ _ (eval (PySem.Expr.Subscript (PySem.Expr.Name _ _) _ _) _) _ _ _); k_dflt (refine' sub_loc ?F ?v ?a ?b ?c ?_; (case F => k_asm); (case a => rfl); (case b => rfl); (case v => rfl); (case c => decide))))
  k_with "call ref cons nil" => (k_dflt (refine Makes.use (by k_asm) (by k_asm) (by k_asm) (by k_asm) (by exact rfl) (by k_asm) (D _ (fun b o e => Fr.keep (by k_asm) b o (hgg b o e))) (by ((try simp only [depth_mark, depth_deeper]); (try dsimp only [ktrTop]); (first | exact rmk (by assumption) (by exact Nat.le_of_ble_eq_true rfl) | exact rmk1 (by assumption) (by exact Nat.le_of_ble_eq_true rfl) | exact rmk2 (by assumption) (by exact Nat.le_of_ble_eq_true rfl) | exact rmk3 (by assumption) (by exact Nat.le_of_ble_eq_true rfl) | exact rmk4 (by assumption) (by exact Nat.le_of_ble_eq_true rfl) | exact rmk0 (by assumption) | omega))) ?_); intro v9 h9' tk9 tl9 F9 N9 ap9 lt9 e9)
  clear hg
  repeat (first | (k_unfold; (try dsimp only)) | (k_end; wrow_close) | walk1 | (dsimp only; walk1) | (leave1; (try dsimp only)) | fail "no step")
  refine fun H => hret _ _ _ _ (H fun _ h => nomatch h) (by k_asm) (fresh_of hgg (by k_asm)) ⟨_, _, _, _, _, _, _, _, _, rfl, by k_mem, by k_mem, by k_mem, e9.mono fun p hp => by simp only [List.mem_cons, List.mem_append, hp, true_or, or_true]⟩
-- part A15
noncomputable abbrev n0M : Ex := (.bin .div (.bin .sub (.var .J) (.int 14)) (.int 12))
noncomputable abbrev n1D : Ex := (.bin .sub (.bin .add (.bin .add (.bin .sub (.var .K) (.int 32075)) (.bin .div (.bin .mul (.int 1461) (.bin .add (.bin .add (.var .I) (.int 4800)) (.var .M))) (.int 4))) (.bin .div (.bin .mul (.int 367) (.bin .sub (.bin .sub (.var .J) (.int 2)) (.bin .mul (.var .M) (.int 12)))) (.int 12))) (.bin .div (.bin .mul (.int 3) (.bin .div (.bin .add (.bin .add (.var .I) (.int 4900)) (.var .M)) (.int 100))) (.int 4)))
noncomputable abbrev n2W : Ex := (.bin .sub (.bin .add (.var .D) (.int 1)) (.bin .mul (.bin .div (.bin .add (.var .D) (.int 1)) (.int 7)) (.int 7)))
noncomputable abbrev w0J : Ex := (.bin .add (.var .J) (.int 12))
noncomputable abbrev w1I : Ex := (.bin .sub (.var .I) (.int 1))
noncomputable abbrev w2W : Ex := (.bin .add (.bin .sub (.bin .add (.bin .add (.bin .add (.var .K) (.bin .div (.bin .mul (.int 13) (.bin .add (.var .J) (.int 1))) (.int 5))) (.var .I)) (.bin .div (.var .I) (.int 4))) (.bin .div (.var .I) (.int 100))) (.bin .div (.var .I) (.int 400)))
noncomputable abbrev w3W : Ex := (.bin .sub (.var .W) (.bin .mul (.bin .div (.var .W) (.int 7)) (.int 7)))
noncomputable def NumRows (led : List (Addr × Obj)) (v : Value) : Prop := ∃ (a : Addr) (v0 v1 v2 : Value), v = .ref a ∧ (a, lst [v0, v1, v2]) ∈ led ∧ SetIn led v0 .M n0M ∧ SetIn led v1 .D n1D ∧ SetIn led v2 .W n2W
set_option maxHeartbeats 8000000 in
theorem num_ok (w : World) (s : Shared) : Makes w 731 13 [] s (fun tl r => NumRows tl r) := by
  intro loose mean mg mb dp un gd cn cs a ccd cl outer A₀ base h₀ L m Q E C hd hret
  w_top off
  have X0 := C.X; revert X0; k_fill; intro X0
  have N : News h₀ L s.heap [] := fun _ h => nomatch h
  (refine wpAny_call ?_; k_dflt (refine' enter _ ?k1 ?k2 ?k3 ?k4 ?k5 ?kA ?kF ?kK ?k6 ?k7 ?k8 ?k9 ?kB ?_ ?c2 ?c3 ?c4 ?c5; (case kA => exact rfl); (case kF => exact rfl); (case kK => exact Cx.k (by assumption)); (case k1 => exact Cx.B (by assumption)); (case k2 => exact Cx.F (by assumption)); (case k3 => exact Cx.X (by assumption)); (case k4 => assumption); (case k5 => exact Cx.T (by assumption)); (case k6 => k_is); (case k7 => k_is); (case k8 => k_room); (case k9 => exact BindsTo.of_eq rfl); (case c5 => decide); (case kB => exact locs rfl); (case c2 => exact rfl); (case c3 => exact rfl); (case c4 => exact rfl); k_whole))
  intro g' L' h' hg FG' F' N' B' X' T'
  have hgg : ∀ b o, s.heap.get? b = some o → g'.get? b = some o := fun b o e => hg b o e (by simp)
  (try dsimp only)
  (with_reducible show wpAny _ _ _ _ _ _)
  k_fold
  k_with_none
  k_with "k_room" => (((try simp only [depth_mark, depth_under_make, depth_under_kw, depth_in1, depth_deeper, depth_caller]); (try dsimp only [ktrTop]); (try simp only [recursionLimit]); (first | exact rmk (by assumption) (by exact Nat.le_of_ble_eq_true rfl) | exact rmk1 (by assumption) (by exact Nat.le_of_ble_eq_true rfl) | exact rmk2 (by assumption) (by exact Nat.le_of_ble_eq_true rfl) | exact rmk3 (by assumption) (by exact Nat.le_of_ble_eq_true rfl) | exact rmk4 (by assumption) (by exact Nat.le_of_ble_eq_true rfl) | exact rmk0 (by assumption) | omega)))
  k_with "k_mem" => ((change (_ ∈ (_ : List (Addr × Obj))); ktr_member))
  k_with "k_mem" => (((change (_ ∈ ((_ ++ _) : List (Addr × Obj)))); first | (refine List.mem_append.mpr (Or.inl ?_); k_mem) | (refine List.mem_append.mpr (Or.inr ?_); k_mem)))
  k_with "binaryOp LShift int int" => (((refine lshift_int_small (by decide) (by decide) (by decide) ?_); rw [show ((1:Int) * 2 ^ ((32:Int) - 1).toNat) = 2147483648 from rfl]))
  k_with "storeName" => (k_dflt (refine' storeX_any ?F ?N ?_ ?a ?b; (case F => k_asm); (case N => k_asm); (case a => rfl); (case b => rfl); k_whole); intro h' tk' F' N'; (try k_sweep))
  k_with "eval Call Name cons nil" => (refine Call_ ?_)
  k_with "eval Call Attribute cons nil" => (refine MethodCall_ ?_)
  k_with "spliced" => (first | ((with_reducible show wpAny _ _ (spliced (backTo _ (starEach (PySem.Expr.Name _ _ :: _) _))) _ _ _); k_dflt (refine' args_loc ?F ?v ?a ?b ?c ?_; (case F => k_asm); (case a => rfl); (case b => rfl); (case v => rfl); (case c => decide))) | ((with_reducible show wpAny _ _ (spliced (backTo _ (starEach (PySem.Expr.Constant (Const.int _) _ _ :: _) _))) _ _ _); refine args_int ?_) | ((with_reducible show wpAny _ _ (spliced (backTo _ (starEach (PySem.Expr.Constant (Const.str _) _ _ :: _) _))) _ _ _); refine args_str ?_))
  k_with "eval Attribute Name" => (k_dflt (refine' attr_loc ?F ?v ?a ?b ?c ?_; (case F => k_asm); (case a => rfl); (case b => rfl); (case v => rfl); (case c => decide)))
  k_with "eval Subscript" => (first | ((with_reducible show wpAny _ _ (eval (PySem.Expr.Subscript (PySem.Expr.Name _ _) (PySem.Expr.Constant (Const.int _) _ _) _) _) _ _ _); k_dflt (refine' sub_loc_int ?F ?v ?a ?b ?c ?_; (case F => k_asm); (case a => rfl); (case b => rfl); (case v => rfl); (case c => decide))) | ((with_reducible show wpAny _ _ (eval (PySem.Expr.Subscript (PySem.Expr.Name _ _) _ _) _) _ _ _); k_dflt (refine' sub_loc ?F ?v ?a ?b ?c ?_; (case F => k_asm); (case a => rfl); (case b => rfl); (case v => rfl); (case c => decide))))
  k_with "call ref cons nil" => first | (k_dflt (refine Makes.use (by k_asm) (by k_asm) (by k_asm) (by k_asm) (by exact rfl) (by k_asm) (set_ok w _ .M _ (tr_ok w _ (nd := 8) [(.div, _, _, (.int 12))] (Nat.le_of_ble_eq_true rfl) ((by k_asm : News _ _ _ _) (_, lstN (_ :: flat [(.div, _, _, (.int 12))]) _) (by k_mem)).1 (tr_ok w _ (nd := 6) [(.sub, _, _, (.int 14))] (Nat.le_of_ble_eq_true rfl) ((by k_asm : News _ _ _ _) (_, lstN (_ :: flat [(.sub, _, _, (.int 14))]) _) (by k_mem)).1 ((trvar_ok w _ .J _).mono (nd' := 6) (by decide)) (fmc (((trint_ok w _ 14 _).mono (nd' := 6) (by decide))) ((fun _ h => nomatch h)))) (fmc (((trint_ok w _ 12 _).mono (nd' := 8) (by decide))) ((fun _ h => nomatch h))))) (by ((try simp only [depth_mark, depth_deeper]); (try dsimp only [ktrTop]); (first | exact rmk (by assumption) (by exact Nat.le_of_ble_eq_true rfl) | exact rmk1 (by assumption) (by exact Nat.le_of_ble_eq_true rfl) | exact rmk2 (by assumption) (by exact Nat.le_of_ble_eq_true rfl) | exact rmk3 (by assumption) (by exact Nat.le_of_ble_eq_true rfl) | exact rmk4 (by assumption) (by exact Nat.le_of_ble_eq_true rfl) | exact rmk0 (by assumption) | omega))) ?_); intro v9 h9' tk9 tl9 F9 N9 ap9 lt9 e9) | (k_dflt (refine Makes.use (by k_asm) (by k_asm) (by k_asm) (by k_asm) (by exact rfl) (by k_asm) (set_ok w _ .D _ (tr_ok w _ (nd := 8) [(.sub, _, _, (.int 32075)), (.add, _, _, (.bin .div (.bin .mul (.int 1461) (.bin .add (.bin .add (.var .I) (.int 4800)) (.var .M))) (.int 4))), (.add, _, _, (.bin .div (.bin .mul (.int 367) (.bin .sub (.bin .sub (.var .J) (.int 2)) (.bin .mul (.var .M) (.int 12)))) (.int 12))), (.sub, _, _, (.bin .div (.bin .mul (.int 3) (.bin .div (.bin .add (.bin .add (.var .I) (.int 4900)) (.var .M)) (.int 100))) (.int 4)))] (Nat.le_of_ble_eq_true rfl) ((by k_asm : News _ _ _ _) (_, lstN (_ :: flat [(.sub, _, _, (.int 32075)), (.add, _, _, (.bin .div (.bin .mul (.int 1461) (.bin .add (.bin .add (.var .I) (.int 4800)) (.var .M))) (.int 4))), (.add, _, _, (.bin .div (.bin .mul (.int 367) (.bin .sub (.bin .sub (.var .J) (.int 2)) (.bin .mul (.var .M) (.int 12)))) (.int 12))), (.sub, _, _, (.bin .div (.bin .mul (.int 3) (.bin .div (.bin .add (.bin .add (.var .I) (.int 4900)) (.var .M)) (.int 100))) (.int 4)))]) _) (by k_mem)).1 ((trvar_ok w _ .K _).mono (nd' := 8) (by decide)) (fmc (((trint_ok w _ 32075 _).mono (nd' := 8) (by decide))) ((fmc ((tr_ok w _ (nd := 6) [(.mul, _, _, (.bin .add (.bin .add (.var .I) (.int 4800)) (.var .M))), (.div, _, _, (.int 4))] (Nat.le_of_ble_eq_true rfl) ((by k_asm : News _ _ _ _) (_, lstN (_ :: flat [(.mul, _, _, (.bin .add (.bin .add (.var .I) (.int 4800)) (.var .M))), (.div, _, _, (.int 4))]) _) (by k_mem)).1 ((trint_ok w _ 1461 _).mono (nd' := 6) (by decide)) (fmc ((tr_ok w _ (nd := 4) [(.add, _, _, (.int 4800)), (.add, _, _, (.var .M))] (Nat.le_of_ble_eq_true rfl) ((by k_asm : News _ _ _ _) (_, lstN (_ :: flat [(.add, _, _, (.int 4800)), (.add, _, _, (.var .M))]) _) (by k_mem)).1 ((trvar_ok w _ .I _).mono (nd' := 4) (by decide)) (fmc (((trint_ok w _ 4800 _).mono (nd' := 4) (by decide))) ((fmc (((trvar_ok w _ .M _).mono (nd' := 4) (by decide))) ((fun _ h => nomatch h))))))) ((fmc (((trint_ok w _ 4 _).mono (nd' := 6) (by decide))) ((fun _ h => nomatch h))))))) ((fmc ((tr_ok w _ (nd := 6) [(.mul, _, _, (.bin .sub (.bin .sub (.var .J) (.int 2)) (.bin .mul (.var .M) (.int 12)))), (.div, _, _, (.int 12))] (Nat.le_of_ble_eq_true rfl) ((by k_asm : News _ _ _ _) (_, lstN (_ :: flat [(.mul, _, _, (.bin .sub (.bin .sub (.var .J) (.int 2)) (.bin .mul (.var .M) (.int 12)))), (.div, _, _, (.int 12))]) _) (by k_mem)).1 ((trint_ok w _ 367 _).mono (nd' := 6) (by decide)) (fmc ((tr_ok w _ (nd := 4) [(.sub, _, _, (.int 2)), (.sub, _, _, (.bin .mul (.var .M) (.int 12)))] (Nat.le_of_ble_eq_true rfl) ((by k_asm : News _ _ _ _) (_, lstN (_ :: flat [(.sub, _, _, (.int 2)), (.sub, _, _, (.bin .mul (.var .M) (.int 12)))]) _) (by k_mem)).1 ((trvar_ok w _ .J _).mono (nd' := 4) (by decide)) (fmc (((trint_ok w _ 2 _).mono (nd' := 4) (by decide))) ((fmc ((tr_ok w _ (nd := 2) [(.mul, _, _, (.int 12))] (Nat.le_of_ble_eq_true rfl) ((by k_asm : News _ _ _ _) (_, lstN (_ :: flat [(.mul, _, _, (.int 12))]) _) (by k_mem)).1 ((trvar_ok w _ .M _).mono (nd' := 2) (by decide)) (fmc (((trint_ok w _ 12 _).mono (nd' := 2) (by decide))) ((fun _ h => nomatch h))))) ((fun _ h => nomatch h))))))) ((fmc (((trint_ok w _ 12 _).mono (nd' := 6) (by decide))) ((fun _ h => nomatch h))))))) ((fmc ((tr_ok w _ (nd := 6) [(.mul, _, _, (.bin .div (.bin .add (.bin .add (.var .I) (.int 4900)) (.var .M)) (.int 100))), (.div, _, _, (.int 4))] (Nat.le_of_ble_eq_true rfl) ((by k_asm : News _ _ _ _) (_, lstN (_ :: flat [(.mul, _, _, (.bin .div (.bin .add (.bin .add (.var .I) (.int 4900)) (.var .M)) (.int 100))), (.div, _, _, (.int 4))]) _) (by k_mem)).1 ((trint_ok w _ 3 _).mono (nd' := 6) (by decide)) (fmc ((tr_ok w _ (nd := 4) [(.div, _, _, (.int 100))] (Nat.le_of_ble_eq_true rfl) ((by k_asm : News _ _ _ _) (_, lstN (_ :: flat [(.div, _, _, (.int 100))]) _) (by k_mem)).1 (tr_ok w _ (nd := 2) [(.add, _, _, (.int 4900)), (.add, _, _, (.var .M))] (Nat.le_of_ble_eq_true rfl) ((by k_asm : News _ _ _ _) (_, lstN (_ :: flat [(.add, _, _, (.int 4900)), (.add, _, _, (.var .M))]) _) (by k_mem)).1 ((trvar_ok w _ .I _).mono (nd' := 2) (by decide)) (fmc (((trint_ok w _ 4900 _).mono (nd' := 2) (by decide))) ((fmc (((trvar_ok w _ .M _).mono (nd' := 2) (by decide))) ((fun _ h => nomatch h)))))) (fmc (((trint_ok w _ 100 _).mono (nd' := 4) (by decide))) ((fun _ h => nomatch h))))) ((fmc (((trint_ok w _ 4 _).mono (nd' := 6) (by decide))) ((fun _ h => nomatch h))))))) ((fun _ h => nomatch h))))))))))) (by ((try simp only [depth_mark, depth_deeper]); (try dsimp only [ktrTop]); (first | exact rmk (by assumption) (by exact Nat.le_of_ble_eq_true rfl) | exact rmk1 (by assumption) (by exact Nat.le_of_ble_eq_true rfl) | exact rmk2 (by assumption) (by exact Nat.le_of_ble_eq_true rfl) | exact rmk3 (by assumption) (by exact Nat.le_of_ble_eq_true rfl) | exact rmk4 (by assumption) (by exact Nat.le_of_ble_eq_true rfl) | exact rmk0 (by assumption) | omega))) ?_); intro v9 h9' tk9 tl9 F9 N9 ap9 lt9 e9) | (k_dflt (refine Makes.use (by k_asm) (by k_asm) (by k_asm) (by k_asm) (by exact rfl) (by k_asm) (set_ok w _ .W _ (tr_ok w _ (nd := 8) [(.sub, _, _, (.bin .mul (.bin .div (.bin .add (.var .D) (.int 1)) (.int 7)) (.int 7)))] (Nat.le_of_ble_eq_true rfl) ((by k_asm : News _ _ _ _) (_, lstN (_ :: flat [(.sub, _, _, (.bin .mul (.bin .div (.bin .add (.var .D) (.int 1)) (.int 7)) (.int 7)))]) _) (by k_mem)).1 (tr_ok w _ (nd := 6) [(.add, _, _, (.int 1))] (Nat.le_of_ble_eq_true rfl) ((by k_asm : News _ _ _ _) (_, lstN (_ :: flat [(.add, _, _, (.int 1))]) _) (by k_mem)).1 ((trvar_ok w _ .D _).mono (nd' := 6) (by decide)) (fmc (((trint_ok w _ 1 _).mono (nd' := 6) (by decide))) ((fun _ h => nomatch h)))) (fmc ((tr_ok w _ (nd := 6) [(.div, _, _, (.int 7)), (.mul, _, _, (.int 7))] (Nat.le_of_ble_eq_true rfl) ((by k_asm : News _ _ _ _) (_, lstN (_ :: flat [(.div, _, _, (.int 7)), (.mul, _, _, (.int 7))]) _) (by k_mem)).1 (tr_ok w _ (nd := 4) [(.add, _, _, (.int 1))] (Nat.le_of_ble_eq_true rfl) ((by k_asm : News _ _ _ _) (_, lstN (_ :: flat [(.add, _, _, (.int 1))]) _) (by k_mem)).1 ((trvar_ok w _ .D _).mono (nd' := 4) (by decide)) (fmc (((trint_ok w _ 1 _).mono (nd' := 4) (by decide))) ((fun _ h => nomatch h)))) (fmc (((trint_ok w _ 7 _).mono (nd' := 6) (by decide))) ((fmc (((trint_ok w _ 7 _).mono (nd' := 6) (by decide))) ((fun _ h => nomatch h))))))) ((fun _ h => nomatch h))))) (by ((try simp only [depth_mark, depth_deeper]); (try dsimp only [ktrTop]); (first | exact rmk (by assumption) (by exact Nat.le_of_ble_eq_true rfl) | exact rmk1 (by assumption) (by exact Nat.le_of_ble_eq_true rfl) | exact rmk2 (by assumption) (by exact Nat.le_of_ble_eq_true rfl) | exact rmk3 (by assumption) (by exact Nat.le_of_ble_eq_true rfl) | exact rmk4 (by assumption) (by exact Nat.le_of_ble_eq_true rfl) | exact rmk0 (by assumption) | omega))) ?_); intro v9 h9' tk9 tl9 F9 N9 ap9 lt9 e9)
  clear hg
  repeat (first | (k_unfold; (try dsimp only)) | (k_end; wrow_close) | walk1 | (dsimp only; walk1) | (leave1; (try dsimp only)) | fail "no step")
  refine fun H => hret _ _ _ _ (H fun _ h => nomatch h) (by k_asm) (fresh_of hgg (by k_asm)) ⟨_, _, _, _, rfl, by k_mem, (by refine SetIn.mono (led := _) ?_ (by assumption); intro p hp; simp only [List.mem_cons, List.mem_append, hp, true_or, or_true]), (by refine SetIn.mono (led := _) ?_ (by assumption); intro p hp; simp only [List.mem_cons, List.mem_append, hp, true_or, or_true]), (by refine SetIn.mono (led := _) ?_ (by assumption); intro p hp; simp only [List.mem_cons, List.mem_append, hp, true_or, or_true])⟩
-- part A16
noncomputable def IfIn (led : List (Addr × Obj)) (v : Value) : Prop :=
  ∃ (r0 s0 b0 c : Addr) (ve : Value) (k1 k2 k3 k4 k5 k6 k7 : Tok), v = .ref r0 ∧ (r0, tup [.int 0 k1, .ref s0]) ∈ led ∧ (s0, tup [.str (Str.ofString "if") k2, .ref b0]) ∈ led ∧ (b0, tup [.str (Str.ofString "le") k3, .int 4 k4, .ref c, ve]) ∈ led ∧ (c, tup [.str (Str.ofString "var") k5, .int 0 k6, .str (Str.ofString "J") k7]) ∈ led ∧ ExIn led ve (.int 2)
noncomputable def EndIn (led : List (Addr × Obj)) (v : Value) : Prop :=
  ∃ (r0 s0 : Addr) (k1 k2 : Tok), v = .ref r0 ∧ (r0, tup [.int 0 k1, .ref s0]) ∈ led ∧ (s0, tup [.str (Str.ofString "endif") k2]) ∈ led
noncomputable def WeeRows (led : List (Addr × Obj)) (v : Value) : Prop := ∃ (a : Addr) (v0 v1 v2 v3 v4 v5 : Value), v = .ref a ∧ (a, lst [v0, v1, v2, v3, v4, v5]) ∈ led ∧ IfIn led v0 ∧ SetIn led v1 .J w0J ∧ SetIn led v2 .I w1I ∧ EndIn led v3 ∧ SetIn led v4 .W w2W ∧ SetIn led v5 .W w3W
set_option maxHeartbeats 8000000 in
theorem wee_ok (w : World) (s : Shared) : Makes w 738 13 [] s (fun tl r => WeeRows tl r) := by
  intro loose mean mg mb dp un gd cn cs a ccd cl outer A₀ base h₀ L m Q E C hd hret
  w_top off
  have X0 := C.X; revert X0; k_fill; intro X0
  have N : News h₀ L s.heap [] := fun _ h => nomatch h
  (refine wpAny_call ?_; k_dflt (refine' enter _ ?k1 ?k2 ?k3 ?k4 ?k5 ?kA ?kF ?kK ?k6 ?k7 ?k8 ?k9 ?kB ?_ ?c2 ?c3 ?c4 ?c5; (case kA => exact rfl); (case kF => exact rfl); (case kK => exact Cx.k (by assumption)); (case k1 => exact Cx.B (by assumption)); (case k2 => exact Cx.F (by assumption)); (case k3 => exact Cx.X (by assumption)); (case k4 => assumption); (case k5 => exact Cx.T (by assumption)); (case k6 => k_is); (case k7 => k_is); (case k8 => k_room); (case k9 => exact BindsTo.of_eq rfl); (case c5 => decide); (case kB => exact locs rfl); (case c2 => exact rfl); (case c3 => exact rfl); (case c4 => exact rfl); k_whole))
  intro g' L' h' hg FG' F' N' B' X' T'
  have hgg : ∀ b o, s.heap.get? b = some o → g'.get? b = some o := fun b o e => hg b o e (by simp)
  (try dsimp only)
  (with_reducible show wpAny _ _ _ _ _ _)
  k_fold
  k_with_none
  k_with "k_room" => (((try simp only [depth_mark, depth_under_make, depth_under_kw, depth_in1, depth_deeper, depth_caller]); (try dsimp only [ktrTop]); (try simp only [recursionLimit]); (first | exact rmk (by assumption) (by exact Nat.le_of_ble_eq_true rfl) | exact rmk1 (by assumption) (by exact Nat.le_of_ble_eq_true rfl) | exact rmk2 (by assumption) (by exact Nat.le_of_ble_eq_true rfl) | exact rmk3 (by assumption) (by exact Nat.le_of_ble_eq_true rfl) | exact rmk4 (by assumption) (by exact Nat.le_of_ble_eq_true rfl) | exact rmk0 (by assumption) | omega)))
  k_with "k_mem" => ((change (_ ∈ (_ : List (Addr × Obj))); ktr_member))
  k_with "k_mem" => (((change (_ ∈ ((_ ++ _) : List (Addr × Obj)))); first | (refine List.mem_append.mpr (Or.inl ?_); k_mem) | (refine List.mem_append.mpr (Or.inr ?_); k_mem)))
  k_with "binaryOp LShift int int" => (((refine lshift_int_small (by decide) (by decide) (by decide) ?_); rw [show ((1:Int) * 2 ^ ((32:Int) - 1).toNat) = 2147483648 from rfl]))
  k_with "storeName" => (k_dflt (refine' storeX_any ?F ?N ?_ ?a ?b; (case F => k_asm); (case N => k_asm); (case a => rfl); (case b => rfl); k_whole); intro h' tk' F' N'; (try k_sweep))
  k_with "eval Call Name cons nil" => (refine Call_ ?_)
  k_with "eval Call Attribute cons nil" => (refine MethodCall_ ?_)
  k_with "spliced" => (first | ((with_reducible show wpAny _ _ (spliced (backTo _ (starEach (PySem.Expr.Name _ _ :: _) _))) _ _ _); k_dflt (refine' args_loc ?F ?v ?a ?b ?c ?_; (case F => k_asm); (case a => rfl); (case b => rfl); (case v => rfl); (case c => decide))) | ((with_reducible show wpAny _ _ (spliced (backTo _ (starEach (PySem.Expr.Constant (Const.int _) _ _ :: _) _))) _ _ _); refine args_int ?_) | ((with_reducible show wpAny _ _ (spliced (backTo _ (starEach (PySem.Expr.Constant (Const.str _) _ _ :: _) _))) _ _ _); refine args_str ?_))
  k_with "eval Attribute Name" => (k_dflt (refine' attr_loc ?F ?v ?a ?b ?c ?_; (case F => k_asm); (case a => rfl); (case b => rfl); (case v => rfl); (case c => decide)))
  k_with "eval Subscript" => (first | ((with_reducible show wpAny _ _ (eval (PySem.Expr.Subscript (PySem.Expr.Name _ _) (PySem.Expr.Constant (Const.int _) _ _) _) _) _ _ _); k_dflt (refine' sub_loc_int ?F ?v ?a ?b ?c ?_; (case F => k_asm); (case a => rfl); (case b => rfl); (case v => rfl); (case c => decide))) | ((with_reducible show wpAny _ _ (eval (PySem.Expr.Subscript (PySem.Expr.Name _ _) _ _) _) _ _ _); k_dflt (refine' sub_loc ?F ?v ?a ?b ?c ?_; (case F => k_asm); (case a => rfl); (case b => rfl); (case v => rfl); (case c => decide))))
  k_with "call ref cons nil" => first | ((k_dflt (refine Makes.use (by k_asm) (by k_asm) (by k_asm) (by k_asm) (by exact rfl) (by k_asm) (trvar_ok w _ .J _ _ (fun _ _ e => e)) (by ((try simp only [depth_mark, depth_deeper]); (try dsimp only [ktrTop]); (first | exact rmk (by assumption) (by exact Nat.le_of_ble_eq_true rfl) | exact rmk1 (by assumption) (by exact Nat.le_of_ble_eq_true rfl) | exact rmk2 (by assumption) (by exact Nat.le_of_ble_eq_true rfl) | exact rmk3 (by assumption) (by exact Nat.le_of_ble_eq_true rfl) | exact rmk4 (by assumption) (by exact Nat.le_of_ble_eq_true rfl) | exact rmk0 (by assumption) | omega))) ?_); intro v9 h9' tk9 tl9 F9 N9 ap9 lt9 e9); obtain ⟨e9⟩ := e9; rename (_ ∈ _) => mJ) | (k_dflt (refine Makes.use (by k_asm) (by k_asm) (by k_asm) (by k_asm) (by exact rfl) (by k_asm) (trint_ok w _ 2 _ _ (fun _ _ e => e)) (by ((try simp only [depth_mark, depth_deeper]); (try dsimp only [ktrTop]); (first | exact rmk (by assumption) (by exact Nat.le_of_ble_eq_true rfl) | exact rmk1 (by assumption) (by exact Nat.le_of_ble_eq_true rfl) | exact rmk2 (by assumption) (by exact Nat.le_of_ble_eq_true rfl) | exact rmk3 (by assumption) (by exact Nat.le_of_ble_eq_true rfl) | exact rmk4 (by assumption) (by exact Nat.le_of_ble_eq_true rfl) | exact rmk0 (by assumption) | omega))) ?_); intro v9 h9' tk9 tl9 F9 N9 ap9 lt9 e9) | (k_dflt (refine Makes.use (by k_asm) (by k_asm) (by k_asm) (by k_asm) (by exact rfl) (by k_asm) (set_ok w _ .J _ (tr_ok w _ (nd := 8) [(.add, _, _, (.int 12))] (Nat.le_of_ble_eq_true rfl) ((by k_asm : News _ _ _ _) (_, lstN (_ :: flat [(.add, _, _, (.int 12))]) _) (by k_mem)).1 ((trvar_ok w _ .J _).mono (nd' := 8) (by decide)) (fmc (((trint_ok w _ 12 _).mono (nd' := 8) (by decide))) ((fun _ h => nomatch h))))) (by ((try simp only [depth_mark, depth_deeper]); (try dsimp only [ktrTop]); (first | exact rmk (by assumption) (by exact Nat.le_of_ble_eq_true rfl) | exact rmk1 (by assumption) (by exact Nat.le_of_ble_eq_true rfl) | exact rmk2 (by assumption) (by exact Nat.le_of_ble_eq_true rfl) | exact rmk3 (by assumption) (by exact Nat.le_of_ble_eq_true rfl) | exact rmk4 (by assumption) (by exact Nat.le_of_ble_eq_true rfl) | exact rmk0 (by assumption) | omega))) ?_); intro v9 h9' tk9 tl9 F9 N9 ap9 lt9 e9) | (k_dflt (refine Makes.use (by k_asm) (by k_asm) (by k_asm) (by k_asm) (by exact rfl) (by k_asm) (set_ok w _ .I _ (tr_ok w _ (nd := 8) [(.sub, _, _, (.int 1))] (Nat.le_of_ble_eq_true rfl) ((by k_asm : News _ _ _ _) (_, lstN (_ :: flat [(.sub, _, _, (.int 1))]) _) (by k_mem)).1 ((trvar_ok w _ .I _).mono (nd' := 8) (by decide)) (fmc (((trint_ok w _ 1 _).mono (nd' := 8) (by decide))) ((fun _ h => nomatch h))))) (by ((try simp only [depth_mark, depth_deeper]); (try dsimp only [ktrTop]); (first | exact rmk (by assumption) (by exact Nat.le_of_ble_eq_true rfl) | exact rmk1 (by assumption) (by exact Nat.le_of_ble_eq_true rfl) | exact rmk2 (by assumption) (by exact Nat.le_of_ble_eq_true rfl) | exact rmk3 (by assumption) (by exact Nat.le_of_ble_eq_true rfl) | exact rmk4 (by assumption) (by exact Nat.le_of_ble_eq_true rfl) | exact rmk0 (by assumption) | omega))) ?_); intro v9 h9' tk9 tl9 F9 N9 ap9 lt9 e9) | (k_dflt (refine Makes.use (by k_asm) (by k_asm) (by k_asm) (by k_asm) (by exact rfl) (by k_asm) (set_ok w _ .W _ (tr_ok w _ (nd := 8) [(.add, _, _, (.bin .div (.bin .mul (.int 13) (.bin .add (.var .J) (.int 1))) (.int 5))), (.add, _, _, (.var .I)), (.add, _, _, (.bin .div (.var .I) (.int 4))), (.sub, _, _, (.bin .div (.var .I) (.int 100))), (.add, _, _, (.bin .div (.var .I) (.int 400)))] (Nat.le_of_ble_eq_true rfl) ((by k_asm : News _ _ _ _) (_, lstN (_ :: flat [(.add, _, _, (.bin .div (.bin .mul (.int 13) (.bin .add (.var .J) (.int 1))) (.int 5))), (.add, _, _, (.var .I)), (.add, _, _, (.bin .div (.var .I) (.int 4))), (.sub, _, _, (.bin .div (.var .I) (.int 100))), (.add, _, _, (.bin .div (.var .I) (.int 400)))]) _) (by k_mem)).1 ((trvar_ok w _ .K _).mono (nd' := 8) (by decide)) (fmc ((tr_ok w _ (nd := 6) [(.mul, _, _, (.bin .add (.var .J) (.int 1))), (.div, _, _, (.int 5))] (Nat.le_of_ble_eq_true rfl) ((by k_asm : News _ _ _ _) (_, lstN (_ :: flat [(.mul, _, _, (.bin .add (.var .J) (.int 1))), (.div, _, _, (.int 5))]) _) (by k_mem)).1 ((trint_ok w _ 13 _).mono (nd' := 6) (by decide)) (fmc ((tr_ok w _ (nd := 4) [(.add, _, _, (.int 1))] (Nat.le_of_ble_eq_true rfl) ((by k_asm : News _ _ _ _) (_, lstN (_ :: flat [(.add, _, _, (.int 1))]) _) (by k_mem)).1 ((trvar_ok w _ .J _).mono (nd' := 4) (by decide)) (fmc (((trint_ok w _ 1 _).mono (nd' := 4) (by decide))) ((fun _ h => nomatch h))))) ((fmc (((trint_ok w _ 5 _).mono (nd' := 6) (by decide))) ((fun _ h => nomatch h))))))) ((fmc (((trvar_ok w _ .I _).mono (nd' := 8) (by decide))) ((fmc ((tr_ok w _ (nd := 6) [(.div, _, _, (.int 4))] (Nat.le_of_ble_eq_true rfl) ((by k_asm : News _ _ _ _) (_, lstN (_ :: flat [(.div, _, _, (.int 4))]) _) (by k_mem)).1 ((trvar_ok w _ .I _).mono (nd' := 6) (by decide)) (fmc (((trint_ok w _ 4 _).mono (nd' := 6) (by decide))) ((fun _ h => nomatch h))))) ((fmc ((tr_ok w _ (nd := 6) [(.div, _, _, (.int 100))] (Nat.le_of_ble_eq_true rfl) ((by k_asm : News _ _ _ _) (_, lstN (_ :: flat [(.div, _, _, (.int 100))]) _) (by k_mem)).1 ((trvar_ok w _ .I _).mono (nd' := 6) (by decide)) (fmc (((trint_ok w _ 100 _).mono (nd' := 6) (by decide))) ((fun _ h => nomatch h))))) ((fmc ((tr_ok w _ (nd := 6) [(.div, _, _, (.int 400))] (Nat.le_of_ble_eq_true rfl) ((by k_asm : News _ _ _ _) (_, lstN (_ :: flat [(.div, _, _, (.int 400))]) _) (by k_mem)).1 ((trvar_ok w _ .I _).mono (nd' := 6) (by decide)) (fmc (((trint_ok w _ 400 _).mono (nd' := 6) (by decide))) ((fun _ h => nomatch h))))) ((fun _ h => nomatch h))))))))))))) (by ((try simp only [depth_mark, depth_deeper]); (try dsimp only [ktrTop]); (first | exact rmk (by assumption) (by exact Nat.le_of_ble_eq_true rfl) | exact rmk1 (by assumption) (by exact Nat.le_of_ble_eq_true rfl) | exact rmk2 (by assumption) (by exact Nat.le_of_ble_eq_true rfl) | exact rmk3 (by assumption) (by exact Nat.le_of_ble_eq_true rfl) | exact rmk4 (by assumption) (by exact Nat.le_of_ble_eq_true rfl) | exact rmk0 (by assumption) | omega))) ?_); intro v9 h9' tk9 tl9 F9 N9 ap9 lt9 e9) | (k_dflt (refine Makes.use (by k_asm) (by k_asm) (by k_asm) (by k_asm) (by exact rfl) (by k_asm) (set_ok w _ .W _ (tr_ok w _ (nd := 8) [(.sub, _, _, (.bin .mul (.bin .div (.var .W) (.int 7)) (.int 7)))] (Nat.le_of_ble_eq_true rfl) ((by k_asm : News _ _ _ _) (_, lstN (_ :: flat [(.sub, _, _, (.bin .mul (.bin .div (.var .W) (.int 7)) (.int 7)))]) _) (by k_mem)).1 ((trvar_ok w _ .W _).mono (nd' := 8) (by decide)) (fmc ((tr_ok w _ (nd := 6) [(.div, _, _, (.int 7)), (.mul, _, _, (.int 7))] (Nat.le_of_ble_eq_true rfl) ((by k_asm : News _ _ _ _) (_, lstN (_ :: flat [(.div, _, _, (.int 7)), (.mul, _, _, (.int 7))]) _) (by k_mem)).1 ((trvar_ok w _ .W _).mono (nd' := 6) (by decide)) (fmc (((trint_ok w _ 7 _).mono (nd' := 6) (by decide))) ((fmc (((trint_ok w _ 7 _).mono (nd' := 6) (by decide))) ((fun _ h => nomatch h))))))) ((fun _ h => nomatch h))))) (by ((try simp only [depth_mark, depth_deeper]); (try dsimp only [ktrTop]); (first | exact rmk (by assumption) (by exact Nat.le_of_ble_eq_true rfl) | exact rmk1 (by assumption) (by exact Nat.le_of_ble_eq_true rfl) | exact rmk2 (by assumption) (by exact Nat.le_of_ble_eq_true rfl) | exact rmk3 (by assumption) (by exact Nat.le_of_ble_eq_true rfl) | exact rmk4 (by assumption) (by exact Nat.le_of_ble_eq_true rfl) | exact rmk0 (by assumption) | omega))) ?_); intro v9 h9' tk9 tl9 F9 N9 ap9 lt9 e9)
  clear hg
  repeat (first | (k_unfold; (try dsimp only)) | (k_end; wrow_close) | walk1 | (dsimp only; walk1) | (leave1; (try dsimp only)) | fail "no step")
  refine fun H => hret _ _ _ _ (H fun _ h => nomatch h) (by k_asm) (fresh_of hgg (by k_asm)) ⟨_, _, _, _, _, _, _, rfl, by k_mem, ⟨_, _, _, _, _, _, _, _, _, _, _, _, rfl, by k_mem, by k_mem, by k_mem, by k_mem, by refine ExIn.mono (led := _) ?_ (by assumption); intro p hp; simp only [List.mem_cons, List.mem_append, hp, true_or, or_true]⟩, (by refine SetIn.mono (led := _) ?_ (by assumption); intro p hp; simp only [List.mem_cons, List.mem_append, hp, true_or, or_true]), (by refine SetIn.mono (led := _) ?_ (by assumption); intro p hp; simp only [List.mem_cons, List.mem_append, hp, true_or, or_true]), ⟨_, _, _, _, rfl, by k_mem, by k_mem⟩, (by refine SetIn.mono (led := _) ?_ (by assumption); intro p hp; simp only [List.mem_cons, List.mem_append, hp, true_or, or_true]), (by refine SetIn.mono (led := _) ?_ (by assumption); intro p hp; simp only [List.mem_cons, List.mem_append, hp, true_or, or_true])⟩
-- part A17
noncomputable def FirstMark : Prop := True
noncomputable def ChainMark : Prop := True
/-- a call that is handed a ledger, makes things, turns none of what stood -/
noncomputable def MakesL (w : World) (f : Addr) (nd : Nat) (vs : List Value) (s : Shared) (lt : List (Addr × Obj)) (P : List (Addr × Obj) → Value → Prop) : Prop :=
  ∀ (loose : List Str) (mean : ExcName → Option Value) (mg mb : Str → Option Value) (dp un : Nat) (gd : Option (List Code)) (cn : Str) (cs : Scope) (a : Addr) (ccd : Value) (cl : List (Str × Addr)) (outer : List Env) (A₀ : Around) (base h₀ : Heap) (L : Addr) (m : Str → Option Value) (Q E : Value → Shared → Prop),
    Cx w loose mean mg mb dp un gd cn cs a ccd cl outer A₀ base h₀ L m s → News h₀ L s.heap lt → dp + nd < 1000 →
    (∀ v h' tk' tl, (∀ b o, s.heap.get? b = some o → h'.get? b = some o) → News h₀ L h' tl → P tl v → Q v { s with heap := h', toks := tk' }) →
    wpAny (model PySem.Challenge.rw_zu0017_01.row.prog w) (ktrTop dp un gd cn cs L a ccd cl outer) (call (.ref f) vs) Q E s
noncomputable abbrev ctlKvs : List (Str × Value) := [(Str.ofString "goto", .ref 568), (Str.ofString "cgoto", .ref 575), (Str.ofString "agoto", .ref 582), (Str.ofString "aif", .ref 589), (Str.ofString "lif", .ref 596), (Str.ofString "if", .ref 603), (Str.ofString "elseif", .ref 610), (Str.ofString "else", .ref 610), (Str.ofString "endif", .ref 617), (Str.ofString "do", .ref 624), (Str.ofString "continue", .ref 617), (Str.ofString "entry", .ref 617), (Str.ofString "pause", .ref 617), (Str.ofString "return", .ref 638), (Str.ofString "end", .ref 645), (Str.ofString "stop", .ref 652)]
theorem not_le_of16 {a b : Nat} (h : a = b) (k : b = 16) : ¬ a ≤ 15 := by omega
theorem lt_of16 {a b : Nat} (h : a = b) (k : b = 16) : a < 17 := by omega
/-- one new dict -/
noncomputable def OneDict (w : World) (kvs : List (Str × Value)) (tl : List (Addr × Obj)) (v : Value) : Prop := ∃ (d : Addr) (o : Obj), v = .ref d ∧ (d, o) ∈ tl ∧ o.IsDictOf (PySem.strKind PySem.Challenge.rw_zu0017_01.row.prog w) kvs ∧ (d == sysModules) = false
set_option maxHeartbeats 8000000 in
theorem ctl_ok (w : World) (s : Shared) : Makes w 659 3 [] s (fun tl v => OneDict w ctlKvs tl v) := by
  intro loose mean mg mb dp un gd cn cs a ccd cl outer A₀ base h₀ L m Q E C hd hret
  w_top off
  have X0 := C.X; revert X0; k_fill; intro X0
  have N : News h₀ L s.heap [] := fun _ h => nomatch h
  (refine wpAny_call ?_; k_dflt (refine' enter _ ?k1 ?k2 ?k3 ?k4 ?k5 ?kA ?kF ?kK ?k6 ?k7 ?k8 ?k9 ?kB ?_ ?c2 ?c3 ?c4 ?c5; (case kA => exact rfl); (case kF => exact rfl); (case kK => exact Cx.k (by assumption)); (case k1 => exact Cx.B (by assumption)); (case k2 => exact Cx.F (by assumption)); (case k3 => exact Cx.X (by assumption)); (case k4 => assumption); (case k5 => exact Cx.T (by assumption)); (case k6 => k_is); (case k7 => k_is); (case k8 => k_room); (case k9 => exact BindsTo.of_eq rfl); (case c5 => decide); (case kB => exact locs rfl); (case c2 => exact rfl); (case c3 => exact rfl); (case c4 => exact rfl); k_whole))
  intro g' L' h' hg FG' F' N' B' X' T'
  have hgg : ∀ b o, s.heap.get? b = some o → g'.get? b = some o := fun b o e => hg b o e (by simp)
  (try dsimp only)
  (with_reducible show wpAny _ _ _ _ _ _)
  k_fold
  clear hg
  k_with_none
  k_with "k_room" => (((try simp only [depth_mark, depth_under_make, depth_under_kw, depth_in1, depth_deeper, depth_caller]); (try dsimp only [ktrTop]); (try simp only [recursionLimit]); (first | exact rmk (by assumption) (by exact Nat.le_of_ble_eq_true rfl) | exact rmk1 (by assumption) (by exact Nat.le_of_ble_eq_true rfl) | exact rmk2 (by assumption) (by exact Nat.le_of_ble_eq_true rfl) | exact rmk3 (by assumption) (by exact Nat.le_of_ble_eq_true rfl) | exact rmk4 (by assumption) (by exact Nat.le_of_ble_eq_true rfl) | exact rmk0 (by assumption) | omega)))
  k_with "k_mem" => ((change (_ ∈ (_ : List (Addr × Obj))); ktr_member))
  k_with "k_mem" => (((change (_ ∈ ((_ ++ _) : List (Addr × Obj)))); first | (refine List.mem_append.mpr (Or.inl ?_); k_mem) | (refine List.mem_append.mpr (Or.inr ?_); k_mem)))
  k_with "binaryOp LShift int int" => (((refine lshift_int_small (by decide) (by decide) (by decide) ?_); rw [show ((1:Int) * 2 ^ ((32:Int) - 1).toNat) = 2147483648 from rfl]))
  k_with "eval Call Name cons nil" => (refine Call_ ?_)
  k_with "eval Call Attribute cons nil" => (refine MethodCall_ ?_)
  iterate 3 (first | (k_unfold; (try dsimp only)) | (k_end; wrow_close) | walk1 | (dsimp only; walk1) | (leave1; (try dsimp only)) | fail "no step")
  refine' long_dict (kvs := ctlKvs) ?F ?N ?B ?sh ?h0 ?l1 ?l2 ?sz ?lp ?nd ?h
  case F => k_asm
  case N => k_asm
  case B => exact Top.nolimit (by k_asm)
  case sh => exact zip_pairTrees _ _ _ _ rfl rfl
  case h0 => exact List.cons_ne_nil _ _
  case l1 => exact not_le_of16 (pairTrees_length _ _ _ _ rfl rfl) rfl
  case l2 => exact lt_of16 (pairTrees_length _ _ _ _ rfl rfl) rfl
  case sz => decide +kernel
  case nd => decide +kernel
  · repeat' (first | exact True.intro | refine And.intro ?_ (And.intro ?_ ?_))
    all_goals (
      intro s5 Q5 F5 h5
      first
      | (refine Calls.Constant_str ?_; exact h5 _ _)
      | (refine wpAny_bind ?_; k_dflt (refine' nameX_K ?F ?X ?T ?e ?_ ?a ?b; (case F => k_asm); (case X => k_asm); (case T => k_asm); (case a => rfl); (case b => rfl); (case e => k_is)); exact wpAny_bind (wpAny_standAt (wpAny_pure h5))))
  · intro d5 h5 o5 tk5 F5 N5 l5 lo5 hd5
    (try dsimp only)
    repeat (first | (k_unfold; (try dsimp only)) | (k_end; wrow_close) | walk1 | (dsimp only; walk1) | (leave1; (try dsimp only)) | fail "no step")
    refine fun H => hret _ _ _ _ (H fun _ h => nomatch h) (by k_asm) (fresh_of hgg (by k_asm)) ⟨_, _, rfl, by k_mem, by assumption, by assumption⟩
-- part D2
/-- a call that makes one dict: only the dict goes to the ledger -/
theorem dict_use {w : World} {f : Addr} {nd : Nat} {vs : List Value} {s : Shared} {news : List (Addr × Obj)} {kvs : List (Str × Value)}
    {loose : List Str} {mean : ExcName → Option Value} {mg mb : Str → Option Value} {dp un : Nat} {gd : Option (List Code)} {cn : Str} {cs : Scope} {a : Addr} {ccd : Value} {cl : List (Str × Addr)} {outer : List Env} {A₀ : Around} {base h₀ : Heap} {L : Addr} {m : Str → Option Value} {Q E : Value → Shared → Prop}
    (B : Below A₀ base outer h₀) (F : Fr h₀ L s.heap m) (X : (Mine.hd.heap_1_39 w.params).In h₀) (T : Top Mine.hd.view_1_40 loose mean mg mb h₀) (k : cs.kind = .function) (N : News h₀ L s.heap news)
    (D : Makes w f nd vs s (fun tl v => OneDict w kvs tl v)) (hd : dp + nd < 1000)
    (ret : ∀ d o h' tk', Fr h₀ L h' m → News h₀ L h' ((d, o) :: news) → (∀ q ∈ news, q.1 ≠ d) → (∀ p ∈ (d, o) :: news, p.1 < h'.objs.size) → o.IsDictOf (PySem.strKind PySem.Challenge.rw_zu0017_01.row.prog w) kvs → (d == sysModules) = false → Q (.ref d) { s with heap := h', toks := tk' }) :
    wpAny (model PySem.Challenge.rw_zu0017_01.row.prog w) (ktrTop dp un gd cn cs L a ccd cl outer) (call (.ref f) vs) Q E s :=
  D _ _ _ _ _ _ _ _ _ _ _ _ _ _ _ _ _ _ _ _ ⟨B, F, X, T, k⟩ hd fun v h' tk' tl kp hN hfr hp => by
    obtain ⟨d, o, rfl, hm, ho, hs⟩ := hp
    refine ret d o h' tk' (F.keeps kp) (fun q hq => ?_) (fun q hq e => by have := hfr _ hm; rw [← e, (N q hq).1] at this; cases this) (fun q hq => ?_) ho hs
    rotate_left
    · rcases List.mem_cons.mp hq with rfl | hq
      · exact Heap.lt_size (hN _ hm).1
      · exact Heap.lt_size (kp _ _ (N q hq).1)
    rcases List.mem_cons.mp hq with rfl | hq
    · exact hN _ hm
    · exact ⟨kp _ _ (N q hq).1, (N q hq).2⟩
/-- d.update(o2), of two dicts of str keys, both new and newest -/
theorem upd_use {w : World} {A : Around} {E : Value → Shared → Prop} {s : Shared} {h₀ : Heap} {L d o₂ : Addr} {m : Str → Option Value} {o ob : Obj} {rest : List (Addr × Obj)} {kvs more : List (Str × Value)} {Q : Value → Shared → Prop}
    (F : Fr h₀ L s.heap m) (N : News h₀ L s.heap ((o₂, ob) :: (d, o) :: rest)) (h1 : d ≠ o₂) (h2 : ∀ p ∈ rest, p.1 ≠ d)
    (hd : o.IsDictOf (PySem.strKind PySem.Challenge.rw_zu0017_01.row.prog w) kvs) (hd2 : ob.IsDictOf (PySem.strKind PySem.Challenge.rw_zu0017_01.row.prog w) more) (lo : (o₂ == sysModules) = false)
    (hsz : kvs.length + more.length ≤ sizeLine)
    (h : ∀ h' o', Fr h₀ L h' m → News h₀ L h' ((o₂, ob) :: (d, o') :: rest) → o'.IsDictOf (PySem.strKind PySem.Challenge.rw_zu0017_01.row.prog w) (merged kvs more) → Q .none { s with heap := h' }) :
    wpAny (model PySem.Challenge.rw_zu0017_01.row.prog w) A (call (.builtin "dict.update") [.ref d, .ref o₂]) Q E s := by
  have hm := N (d, o) (.tail _ (.head _))
  have hD : s.heap.DictOf (PySem.strKind PySem.Challenge.rw_zu0017_01.row.prog w) d kvs := Heap.dictOf_iff.mpr ⟨o, hm.1, hd⟩
  have hD2 : s.heap.DictOf (PySem.strKind PySem.Challenge.rw_zu0017_01.row.prog w) o₂ more := Heap.dictOf_iff.mpr ⟨ob, (N _ (.head _)).1, hd2⟩
  refine call_meetsIn PySem.F.slot_dict_update hD.typeIs PySem.F.entry_dict_update (PySem.F.args_dict_update_2 _ _) (meets_dict_update _ d o₂ h1 lo)
    ⟨kvs, more, hD, hD2, hsz, fun h' hmm _ hs => ?_⟩
  obtain ⟨o', ho', hd'⟩ := Heap.dictOf_iff.mp hmm
  refine h h' o' (F.change hs hm.2.1 hm.2.2) (News.setIn (own := [(o₂, ob)]) (rest := rest) N (fun p hp => ?_) h2 hs ho') hd'
  rcases List.mem_singleton.mp hp with rfl
  exact fun e => h1 e.symm
-- part B1
noncomputable abbrev asgKvs : List (Str × Value) := [(Str.ofString "assign", .ref 533), (Str.ofString "setlabel", .ref 547)]
set_option maxHeartbeats 8000000 in
theorem asg_ok (w : World) (s : Shared) : Makes w 561 3 [] s (fun tl v => OneDict w asgKvs tl v) := by
  intro loose mean mg mb dp un gd cn cs a ccd cl outer A₀ base h₀ L m Q E C hd hret
  w_top off
  have X0 := C.X; revert X0; k_fill; intro X0
  have N : News h₀ L s.heap [] := fun _ h => nomatch h
  (refine wpAny_call ?_; k_dflt (refine' enter _ ?k1 ?k2 ?k3 ?k4 ?k5 ?kA ?kF ?kK ?k6 ?k7 ?k8 ?k9 ?kB ?_ ?c2 ?c3 ?c4 ?c5; (case kA => exact rfl); (case kF => exact rfl); (case kK => exact Cx.k (by assumption)); (case k1 => exact Cx.B (by assumption)); (case k2 => exact Cx.F (by assumption)); (case k3 => exact Cx.X (by assumption)); (case k4 => assumption); (case k5 => exact Cx.T (by assumption)); (case k6 => k_is); (case k7 => k_is); (case k8 => k_room); (case k9 => exact BindsTo.of_eq rfl); (case c5 => decide); (case kB => exact locs rfl); (case c2 => exact rfl); (case c3 => exact rfl); (case c4 => exact rfl); k_whole))
  intro g' L' h' hg FG' F' N' B' X' T'
  have hgg : ∀ b o, s.heap.get? b = some o → g'.get? b = some o := fun b o e => hg b o e (by simp)
  (try dsimp only)
  (with_reducible show wpAny _ _ _ _ _ _)
  k_fold
  clear hg
  k_with_none
  k_with "k_room" => (((try simp only [depth_mark, depth_under_make, depth_under_kw, depth_in1, depth_deeper, depth_caller]); (try dsimp only [ktrTop]); (try simp only [recursionLimit]); (first | exact rmk (by assumption) (by exact Nat.le_of_ble_eq_true rfl) | exact rmk1 (by assumption) (by exact Nat.le_of_ble_eq_true rfl) | exact rmk2 (by assumption) (by exact Nat.le_of_ble_eq_true rfl) | exact rmk3 (by assumption) (by exact Nat.le_of_ble_eq_true rfl) | exact rmk4 (by assumption) (by exact Nat.le_of_ble_eq_true rfl) | exact rmk0 (by assumption) | omega)))
  k_with "k_mem" => ((change (_ ∈ (_ : List (Addr × Obj))); ktr_member))
  k_with "k_mem" => (((change (_ ∈ ((_ ++ _) : List (Addr × Obj)))); first | (refine List.mem_append.mpr (Or.inl ?_); k_mem) | (refine List.mem_append.mpr (Or.inr ?_); k_mem)))
  k_with "binaryOp LShift int int" => (((refine lshift_int_small (by decide) (by decide) (by decide) ?_); rw [show ((1:Int) * 2 ^ ((32:Int) - 1).toNat) = 2147483648 from rfl]))
  k_with "storeName" => (k_dflt (refine' storeX_any ?F ?N ?_ ?a ?b; (case F => k_asm); (case N => k_asm); (case a => rfl); (case b => rfl); k_whole); intro h' tk' F' N'; (try k_sweep))
  k_with "eval Call Name cons nil" => (refine Call_ ?_)
  k_with "eval Call Attribute cons nil" => (refine MethodCall_ ?_)
  k_with "spliced" => (first | ((with_reducible show wpAny _ _ (spliced (backTo _ (starEach (PySem.Expr.Name _ _ :: _) _))) _ _ _); k_dflt (refine' args_loc ?F ?v ?a ?b ?c ?_; (case F => k_asm); (case a => rfl); (case b => rfl); (case v => rfl); (case c => decide))) | ((with_reducible show wpAny _ _ (spliced (backTo _ (starEach (PySem.Expr.Constant (Const.int _) _ _ :: _) _))) _ _ _); refine args_int ?_) | ((with_reducible show wpAny _ _ (spliced (backTo _ (starEach (PySem.Expr.Constant (Const.str _) _ _ :: _) _))) _ _ _); refine args_str ?_))
  k_with "eval Attribute Name" => (k_dflt (refine' attr_loc ?F ?v ?a ?b ?c ?_; (case F => k_asm); (case a => rfl); (case b => rfl); (case v => rfl); (case c => decide)))
  k_with "eval Subscript" => (first | ((with_reducible show wpAny _ _ (eval (PySem.Expr.Subscript (PySem.Expr.Name _ _) (PySem.Expr.Constant (Const.int _) _ _) _) _) _ _ _); k_dflt (refine' sub_loc_int ?F ?v ?a ?b ?c ?_; (case F => k_asm); (case a => rfl); (case b => rfl); (case v => rfl); (case c => decide))) | ((with_reducible show wpAny _ _ (eval (PySem.Expr.Subscript (PySem.Expr.Name _ _) _ _) _) _ _ _); k_dflt (refine' sub_loc ?F ?v ?a ?b ?c ?_; (case F => k_asm); (case a => rfl); (case b => rfl); (case v => rfl); (case c => decide))))
  repeat (first | (k_unfold; (try dsimp only)) | (k_end; wrow_close) | walk1 | (dsimp only; walk1) | (leave1; (try dsimp only)) | fail "no step")
  refine fun H => hret _ _ _ _ (H fun _ h => nomatch h) (by k_asm) (fresh_of hgg (by k_asm)) ⟨_, _, rfl, by k_mem, by assumption, by assumption⟩
-- part T1
/-- the first n of these lie above all that stand behind them -/
noncomputable def DescN : Nat → List Addr → Prop
  | 0, _ => True
  | _ + 1, [] => True
  | n + 1, a :: r => (∀ b ∈ r, @LT.lt Nat _ b a) ∧ DescN n r
inductive UpdN (d : Addr) (o o' : Obj) : Nat → List (Addr × Obj) → List (Addr × Obj) → Prop
  | head {r} : UpdN d o o' 0 ((d, o) :: r) ((d, o') :: r)
  | tail {k p r r'} : UpdN d o o' k r r' → UpdN d o o' (k + 1) (p :: r) (p :: r')
theorem UpdN.mem {d : Addr} {o o' : Obj} {k : Nat} {l l' : List (Addr × Obj)} (h : UpdN d o o' k l l') : d ∈ l.map (·.1) := by
  induction h with
  | head => exact .head _
  | tail _ ih => exact .tail _ ih
theorem UpdN.upd {d : Addr} {o o' : Obj} {k : Nat} {l l' : List (Addr × Obj)} (h : UpdN d o o' k l l') : ∀ {n : Nat}, DescN n (l.map (·.1)) → k < n → Upd d o o' l l' := by
  induction h with
  | head =>
    intro n hD hk
    obtain ⟨n, rfl⟩ : ∃ m, n = m + 1 := ⟨n - 1, by omega⟩
    exact .head fun p hp => Nat.ne_of_lt (hD.1 _ (List.mem_map_of_mem hp))
  | tail h ih =>
    intro n hD hk
    obtain ⟨n, rfl⟩ : ∃ m, n = m + 1 := ⟨n - 1, by omega⟩
    exact .tail (Nat.ne_of_gt (hD.1 _ h.mem)) (ih hD.2 (by omega))
theorem desc_cons {n : Nat} {d : Addr} {news : List (Addr × Obj)} (h : DescN n (news.map (·.1))) (l : ∀ p ∈ news, p.1 < d) : DescN (n + 1) (d :: news.map (·.1)) :=
  ⟨fun b hb => by obtain ⟨p, hp, rfl⟩ := List.mem_map.mp hb; exact l p hp, h⟩
theorem desc_consA {n : Nat} {d : Addr} {as : List Addr} {news : List (Addr × Obj)} (h : DescN n as) (e : news.map (·.1) = as) (l : ∀ p ∈ news, p.1 < d) : DescN (n + 1) (d :: as) := by
  subst e
  exact desc_cons h l
theorem desc_cons2 {n : Nat} {d x : Addr} {r : List Addr} (h : DescN (n + 1) (d :: r)) (l : d < x) : DescN (n + 2) (x :: d :: r) :=
  ⟨fun b hb => by
    rcases List.mem_cons.mp hb with rfl | hb
    · exact l
    · exact Nat.lt_trans (h.1 b hb) l, h⟩
noncomputable def OffCls (c : Value) : Nat → List (Addr × Obj) → Prop
  | _, [] => True
  | 0, _ :: r => ∀ p ∈ r, p.2.cls ≠ c
  | k + 1, p :: r => p.2.cls ≠ c ∧ OffCls c k r
theorem UpdN.updC {h₀ h : Heap} {L : Addr} {d : Addr} {o o' : Obj} {k : Nat} {l l' : List (Addr × Obj)} (u : UpdN d o o' k l l') (N : News h₀ L h l) (hc : OffCls o.cls k l) : Upd d o o' l l' := by
  have ne : ∀ q ∈ l, h.get? d = some o → q.2.cls ≠ o.cls → q.1 ≠ d := fun q hq ho hn e => by
    have := (N q hq).1
    rw [e, ho] at this
    exact hn (by rw [Option.some.inj this])
  induction u with
  | head => exact .head fun p hp => ne p (.tail _ hp) (N _ (.head _)).1 (hc p hp)
  | tail u ih =>
    have ho : ∀ {k l l'}, UpdN d o o' k l l' → News h₀ L h l → h.get? d = some o := fun u => by
      induction u with
      | head => exact fun N => (N _ (.head _)).1
      | tail _ ih => exact fun N => ih fun p hp => N p (.tail _ hp)
    have N2 : News h₀ L h _ := fun p hp => N p (.tail _ hp)
    exact .tail (ne _ (.head _) (ho u N2) hc.1) (ih N2 hc.2 fun q hq a b => ne q (.tail _ hq) a b)
theorem news_drop {h₀ h : Heap} {L : Addr} {l : List (Addr × Obj)} (n : Nat) (N : News h₀ L h l) : News h₀ L h (l.drop n) := fun p hp => N p (List.mem_of_mem_drop hp)
theorem lts_of {I C D t : Addr} {oI oC oD : Obj} {news : List (Addr × Obj)} (h : ∀ p ∈ (I, oI) :: (C, oC) :: (D, oD) :: news, p.1 < t) : @LT.lt Nat _ I t ∧ @LT.lt Nat _ C t ∧ @LT.lt Nat _ D t := ⟨h _ (.head _), h _ (.tail _ (.head _)), h _ (.tail _ (.tail _ (.head _)))⟩
theorem compEnd_t {h₀ : Heap} {L I C D t : Addr} {m : Str → Option Value} {s₁ : Shared} {oI oC oD o : Obj} {S : List (Addr × Obj) → Prop} {rest : Value → List (Addr × Obj) → Prop} {y : Value} {h' : Heap} {tk : Nat} {news : List (Addr × Obj)}
    (F : Fr h₀ L h' m) (N : News h₀ L h' ((t, o) :: (I, oI) :: (C, oC) :: (D, oD) :: news)) (off : LCg.Off3 I C D news) (lt : @LT.lt Nat _ I t ∧ @LT.lt Nat _ C t ∧ @LT.lt Nat _ D t) (hS : ∀ l, (∀ p ∈ news, p ∈ l) → S l) (r : rest y ((t, o) :: news)) :
    LCg.CompEnd h₀ L m s₁ I oI C oC D oD S rest y { s₁ with heap := h', toks := tk } := by
  refine LCg.CompEnd.intro F N ((t, o) :: news) ?_ ⟨⟨Nat.ne_of_gt lt.1, Nat.ne_of_gt lt.2.1, Nat.ne_of_gt lt.2.2⟩, off⟩ (hS _ fun p hp => List.mem_cons_of_mem _ hp) r
  intro p hp
  simp only [List.mem_cons] at hp ⊢
  rcases hp with h | h | h | h | h <;> simp only [h, true_or, or_true]
noncomputable def KeptT (s : Shared) (lit : List (Addr × Obj)) (R : Result → Shared → Prop) (r : Result) (s' : Shared) : Prop :=
  (∀ b o, s.heap.get? b = some o → b ∉ lit.map (·.1) → s'.heap.get? b = some o) → R r s'
section
variable {prog : Program} {w : World} {A₀ A : Around} {s : Shared} {base h₀ : Heap} {outer : List Env} {L : Addr} {m mg mb : Str → Option Value} {env : Env} {K : Frag} {p : Program} {loose : List Str} {mean : ExcName → Option Value}
  {R : Result → Shared → Prop} {name qual : Str} {params : Arguments} {body : List Stmt} {scope : Scope} {dV kV doc pm cdv ct oc : Value} {an od : Option Addr} {osl : Array (Option Value)} {f : Addr} {args : Args} {binds : List (Str × Value)}
/-- entering a def that turns things of the ledger -/
theorem enterT (lit : List (Addr × Obj)) (B : Below A₀ base outer h₀) (F : Fr h₀ L s.heap m) (X₀ : K.In h₀) (N : News h₀ L s.heap lit) (T : Top p loose mean mg mb h₀) (hA : A.frames = some (env :: outer)) (hf : env.frame = some L) (hke : env.scope.kind = .function)
    (ho : K.lookup f = some ⟨oc, od, .func (fnOf name qual params body scope dV kV doc pm an cdv ct), osl⟩) (hcd : codeIn K cdv qual = true) (hroom : A.depth < recursionLimit)
    (hbind : BindsTo s (fnOf name qual params body scope dV kV doc pm an cdv ct) args binds) (hloc : ∀ y ∈ binds, scope.names.lookup y.1 = some .local)
    (h : ∀ g L' h₁, (∀ b o, s.heap.get? b = some o → b ∉ lit.map (·.1) → g.get? b = some o) → Fr h₀ L g m → Fr g L' h₁ (fun y => binds.reverse.lookup y) → News g L' h₁ lit → Below A base (env :: outer) g → K.In g → Top p loose mean mg mb g →
      wpAny (model prog w) (A.deeper (envOf qual scope L' f cdv)) (execs body (envOf qual scope L' f cdv))
        (fun fl s' => LeaveK h₀ L m g (KeptT s lit R) (match fl with | .ret v => v | _ => .none) s')
        (fun e s' => wpAny (model prog w) (A.deeper (envOf qual scope L' f cdv)) (leaving (envOf qual scope L' f cdv) e) (fun _ s'' => R (.error e) s'') (fun e' s'' => R (.error e') s'') s')
        { s with heap := h₁, toks := s.toks + binds.length })
    (hco : scope.isCoroutine = false) (hgen : scope.isGenerator = false) (hk : scope.kind = .function)
    (hcell : ∀ x ∈ scope.names, x.2 ≠ .cell) : codeAny (model prog w) A (.call (.ref f) args) R s := by
  obtain ⟨FG, BG, st, lv⟩ := groundX (R := KeptT s lit R) B F N hA hf hke
  refine codeAny_call_def (fd := fnOf name qual params body scope dV kV doc pm an cdv ct) (body := body) (binds := binds) hroom (X₀.keeps F.keep _ _ ho) rfl (T.nolimit.keeps F.keep) (codeRec_of (X₀.keeps F.keep) hcd) rfl hbind hcell hloc (fun h₁ hns hk₁ => ?_) hco hgen hk
  refine wpAny_mono (h _ s.heap.objs.size h₁ (fun b o e n => hideAll_get _ e n) FG ⟨hns, fun b o e => hk₁ b o (of_hideAll _ e), Nat.le_of_eq (hideAll_size _ _)⟩
    (fun q hq => ⟨hk₁ _ _ (N q hq).1, Nat.ne_of_lt (Heap.lt_size (N q hq).1), hideAll_none _ (List.mem_map_of_mem hq)⟩) BG (X₀.keeps st) (T.keeps st)) (fun fl s' hl => ?_) fun _ _ y => y
  have hl' := lv _ _ hl
  obtain ⟨L', m', news', F', N', k⟩ := hl
  exact hl' fun b o e hb => F'.keep b o (hideAll_get _ e hb)
end
/-- what moves while the unit runs -/
structure Mv where
  (c : Var → Addr)
  (td te : Var → Tok)
  (st : Int)
  (tst t4 : Tok)
  (hd fl : Addr)
noncomputable abbrev Rw.upd (r : Rw) (u : Mv) : Rw := { r with c := u.c, td := u.td, te := u.te, ste := .int u.st u.tst, m4 := .int 1000000 u.t4, sta := .ref u.hd, flo := .ref u.fl }
noncomputable abbrev runX (w : World) (r : Rw) (sta ste flo : Value) : Obj := dictOf [ent w "memory" r.k0 (.ref r.mem), ent w "limits" r.k1 (.ref r.lim), ent w "units" r.k2 r.uni, ent w "world" r.k3 r.wor, ent w "expressions" r.k4 (.ref r.ex), ent w "statements" r.k5 sta, ent w "frame" r.k6 (.ref r.fra), ent w "depth" r.k7 r.dep, ent w "steps" r.k8 ste, ent w "places" r.k9 r.pla, ent w "flows" r.k10 flo, ent w "clears" r.k11 r.cle, ent w "active" r.k12 r.act, ent w "loops" r.k13 r.loo, ent w "operations" r.k14 (.ref r.ope), ent w "library" r.k15 r.lib] 16
noncomputable abbrev numsX (c : Var → Addr) (n : Nat) : Obj := lstN [.ref (c .I), .ref (c .J), .ref (c .K), .ref (c .D), .ref (c .W), .ref (c .M)] n
noncomputable abbrev limX (w : World) (r : Rw) (m4 : Value) : Obj := dictOf [ent w "width" r.l0 (.int 32 r.lw), ent w "real_digits" r.l1 r.m1, ent w "double_digits" r.l2 r.m2, ent w "top_exponent" r.l3 r.m3, ent w "steps" r.l4 m4, ent w "continuations" r.l5 r.m5, ent w "columns" r.l6 r.m6, ent w "depth" r.l7 r.m7] 8
noncomputable abbrev celX (td te : Var → Tok) (x : Var) (v : Int) : Obj := tup [.int 0 (td x), .int v (te x)]
noncomputable abbrev litU (w : World) (e : St) (r : Rw) (u : Mv) : List (Addr × Obj) := [
  (r.run, instObj 330 r.dr), (r.dr, runX w r (.ref u.hd) (.int u.st u.tst) (.ref u.fl)), (r.ex, r.oex), (r.ope, r.oope), (r.fra, r.ofra),
  (r.mem, instObj 141 r.dm), (r.dm, memD w r), (r.nums, numsX u.c r.nn), (r.lim, instObj 677 r.dl), (r.dl, limX w r (.int 1000000 u.t4)),
  (r.p .I, plc r .I 0), (u.c .I, celX u.td u.te .I e.I),
  (r.p .J, plc r .J 1), (u.c .J, celX u.td u.te .J e.J),
  (r.p .K, plc r .K 2), (u.c .K, celX u.td u.te .K e.K),
  (r.p .D, plc r .D 3), (u.c .D, celX u.td u.te .D e.D),
  (r.p .W, plc r .W 4), (u.c .W, celX u.td u.te .W e.W),
  (r.p .M, plc r .M 5), (u.c .M, celX u.td u.te .M e.M)]
theorem lit_u (w : World) (e : St) (r : Rw) (u : Mv) : lit w e (r.upd u) = litU w e r u := rfl
noncomputable def litT (w : World) (e : St) (r : Rw) (u : Mv) : List (Addr × Obj) := [
  (r.ex, r.oex), (r.ope, r.oope), (r.fra, r.ofra),
  (r.mem, instObj 141 r.dm), (r.dm, memD w r), (r.nums, numsX u.c r.nn), (r.lim, instObj 677 r.dl), (r.dl, limX w r (.int 1000000 u.t4)),
  (r.p .I, plc r .I 0), (u.c .I, celX u.td u.te .I e.I),
  (r.p .J, plc r .J 1), (u.c .J, celX u.td u.te .J e.J),
  (r.p .K, plc r .K 2), (u.c .K, celX u.td u.te .K e.K),
  (r.p .D, plc r .D 3), (u.c .D, celX u.td u.te .D e.D),
  (r.p .W, plc r .W 4), (u.c .W, celX u.td u.te .W e.W),
  (r.p .M, plc r .M 5), (u.c .M, celX u.td u.te .M e.M)]
theorem lit_c (w : World) (e : St) (r : Rw) (u : Mv) : lit w e (r.upd u) = (r.run, instObj 330 r.dr) :: (r.dr, runX w r (.ref u.hd) (.int u.st u.tst) (.ref u.fl)) :: litT w e r u := rfl
structure Sep (r : Rw) : Prop where
  a1 : @Ne Nat r.ex r.dr
  a2 : @Ne Nat r.ope r.dr
  a3 : @Ne Nat r.fra r.dr
  a4 : @Ne Nat r.dm r.dr
  a5 : @Ne Nat r.dl r.dr
  b1 : @Ne Nat r.ex r.nums
  b2 : @Ne Nat r.ope r.nums
  b3 : @Ne Nat r.fra r.nums
noncomputable def Mark (e : St) (u : Mv) : Prop := (e, u) = (e, u)
noncomputable def OffR (r : Rw) (rest : List (Addr × Obj)) : Prop := ∀ q ∈ rest, @Ne Nat q.1 r.dr ∧ @Ne Nat q.1 r.nums
/-- a call that turns the run's dict and the memory's list alone -/
noncomputable def Works (w : World) (f : Addr) (nd : Nat) (vs : List Value) (s : Shared) (e : St) (r : Rw) (u : Mv) (ex : List (Addr × Obj)) (P : St → Mv → Value → Prop) : Prop :=
  ∀ (loose : List Str) (mean : ExcName → Option Value) (mg mb : Str → Option Value) (dp un : Nat) (gd : Option (List Code)) (cn : Str) (cs : Scope) (a : Addr) (ccd : Value) (cl : List (Str × Addr)) (outer : List Env) (A₀ : Around) (base h₀ : Heap) (L : Addr) (m : Str → Option Value) (Q E : Value → Shared → Prop),
    Cx w loose mean mg mb dp un gd cn cs a ccd cl outer A₀ base h₀ L m s → News h₀ L s.heap (ex ++ lit w e (r.upd u)) → dp + nd < 1000 →
    (∀ v h' tk' e' u', (∀ b o, s.heap.get? b = some o → b ≠ r.dr → b ≠ r.nums → h'.get? b = some o) → News h₀ L h' (lit w e' (r.upd u')) → P e' u' v → Q v { s with heap := h', toks := tk' }) →
    wpAny (model PySem.Challenge.rw_zu0017_01.row.prog w) (ktrTop dp un gd cn cs L a ccd cl outer) (call (.ref f) vs) Q E s
theorem fr_but {h₀ h h' : Heap} {L d n : Addr} {m : Str → Option Value} (F : Fr h₀ L h m) (k : ∀ b o, h.get? b = some o → b ≠ d → b ≠ n → h'.get? b = some o) (h1 : d ≠ L) (h2 : h₀.get? d = none) (h3 : n ≠ L) (h4 : h₀.get? n = none) : Fr h₀ L h' m := by
  obtain ⟨⟨oL, es, ep, hL, hr⟩, kp, ab⟩ := F
  refine ⟨⟨oL, es, ep, k _ _ hL (Ne.symm h1) (Ne.symm h3), hr⟩, fun b o e => k b o (kp b o e) (fun q => ?_) (fun q => ?_), ab⟩
  · rw [q, h2] at e; cases e
  · rw [q, h4] at e; cases e
theorem Works.use {w : World} {f : Addr} {nd : Nat} {vs : List Value} {s : Shared} {e : St} {r : Rw} {u : Mv} {ex news rest : List (Addr × Obj)} {P : St → Mv → Value → Prop}
    {loose : List Str} {mean : ExcName → Option Value} {mg mb : Str → Option Value} {dp un : Nat} {gd : Option (List Code)} {cn : Str} {cs : Scope} {a : Addr} {ccd : Value} {cl : List (Str × Addr)} {outer : List Env} {A₀ : Around} {base h₀ : Heap} {L : Addr} {m : Str → Option Value} {Q E : Value → Shared → Prop}
    (mk : Mark e u) (off : OffR r rest)
    (B : Below A₀ base outer h₀) (F : Fr h₀ L s.heap m) (X : (Mine.hd.heap_1_39 w.params).In h₀) (T : Top Mine.hd.view_1_40 loose mean mg mb h₀) (k : cs.kind = .function) (N : News h₀ L s.heap news)
    (D : Works w f nd vs s e r u ex P) (sub : ∀ q ∈ rest ++ lit w e (r.upd u), q ∈ news) (sux : ∀ q ∈ ex, q ∈ rest) (hd : dp + nd < 1000)
    (ret : ∀ v h' tk' e' u', Fr h₀ L h' m → News h₀ L h' (rest ++ lit w e' (r.upd u')) → (∀ b o, s.heap.get? b = some o → b ≠ r.dr → b ≠ r.nums → h'.get? b = some o) → P e' u' v → Mark e' u' → Q v { s with heap := h', toks := tk' }) :
    wpAny (model PySem.Challenge.rw_zu0017_01.row.prog w) (ktrTop dp un gd cn cs L a ccd cl outer) (call (.ref f) vs) Q E s := by
  have N0 : ∀ q ∈ rest ++ lit w e (r.upd u), _ := fun q hq => N q (sub q hq)
  have nd1 := N0 _ (List.mem_append_right rest (show (r.dr, _) ∈ lit w e (r.upd u) from .tail _ (.head _)))
  have nd2 := N0 _ (List.mem_append_right rest (show (r.nums, _) ∈ lit w e (r.upd u) from .tail _ (.tail _ (.tail _ (.tail _ (.tail _ (.tail _ (.tail _ (.head _)))))))))
  refine D _ _ _ _ _ _ _ _ _ _ _ _ _ _ _ _ _ _ _ _ ⟨B, F, X, T, k⟩ (fun q hq => N0 q ((List.mem_append.mp hq).elim (fun h => List.mem_append_left _ (sux q h)) fun h => List.mem_append_right _ h)) hd fun v h' tk' e' u' kp hN hp => ret v h' tk' e' u' (fr_but F kp nd1.2.1 nd1.2.2 nd2.2.1 nd2.2.2) (fun q hq => ?_) kp hp rfl
  rcases List.mem_append.mp hq with hq | hq
  · have z := N0 q (List.mem_append_left _ hq)
    exact ⟨kp _ _ z.1 (off q hq).1 (off q hq).2, z.2⟩
  · exact hN q hq
theorem keep_but {d n : Addr} {h₀ g : Heap} {L L' : Addr} {h h' : Heap} {lt lt' : List (Addr × Obj)} (N : News h₀ L h lt) (N' : News g L' h' lt') (H : ∀ b o, h.get? b = some o → b ∉ lt.map (·.1) → h'.get? b = some o)
    (hs : ∀ q ∈ lt, q.1 = d ∨ q.1 = n ∨ q ∈ lt') : ∀ b o, h.get? b = some o → b ≠ d → b ≠ n → h'.get? b = some o := by
  intro b o e h1 h2
  by_cases hb : b ∈ lt.map (·.1)
  · obtain ⟨q, hm, rfl⟩ := List.mem_map.mp hb
    have := (N q hm).1
    rw [e] at this
    cases this
    rcases hs q hm with h | h | h
    · exact absurd h h1
    · exact absurd h h2
    · exact (N' q h).1
  · exact H b o e hb
theorem news_sub {h₀ h : Heap} {L : Addr} {lt lt' : List (Addr × Obj)} (N : News h₀ L h lt) (sub : ∀ q ∈ lt', q ∈ lt) : News h₀ L h lt' := fun q hq => N q (sub q hq)
noncomputable def OffS (d : Addr) (c : Value) : Nat → List (Addr × Obj) → Prop
  | _, [] => True
  | 0, _ :: r => ∀ p ∈ r, p.2.cls ≠ c ∨ p.1 ≠ d
  | k + 1, p :: r => (p.2.cls ≠ c ∨ p.1 ≠ d) ∧ OffS d c k r
theorem UpdN.updS {h₀ h : Heap} {L : Addr} {d : Addr} {o o' : Obj} {k : Nat} {l l' : List (Addr × Obj)} (u : UpdN d o o' k l l') (N : News h₀ L h l) (hc : OffS d o.cls k l) : Upd d o o' l l' := by
  have ne : ∀ q ∈ l, h.get? d = some o → (q.2.cls ≠ o.cls ∨ q.1 ≠ d) → q.1 ≠ d := fun q hq ho hn e => by
    rcases hn with hn | hn
    · have := (N q hq).1
      rw [e, ho] at this
      exact hn (by rw [Option.some.inj this])
    · exact hn e
  induction u with
  | head => exact .head fun p hp => ne p (.tail _ hp) (N _ (.head _)).1 (hc p hp)
  | tail u ih =>
    have ho : ∀ {k l l'}, UpdN d o o' k l l' → News h₀ L h l → h.get? d = some o := fun u => by
      induction u with
      | head => exact fun N => (N _ (.head _)).1
      | tail _ ih => exact fun N => ih fun p hp => N p (.tail _ hp)
    have N2 : News h₀ L h _ := fun p hp => N p (.tail _ hp)
    exact .tail (ne _ (.head _) (ho u N2) hc.1) (ih N2 hc.2 fun q hq a b => ne q (.tail _ hq) a b)
-- part T4
section
variable {prog : Program} {w : World} {A : Around} {E : Value → Shared → Prop} {s : Shared} {env : Env} {h₀ : Heap} {x : Str} {body : List Stmt} {Q : Flow → Shared → Prop}
/-- a turn's end by one that knows the iterator's own objects -/
theorem step_of {L : Addr} {wr : List Addr} {own its : List (Addr × Obj)} {Jn : (Str → Option Value) → List (Addr × Obj) → Prop} {s₁ s₂ : Shared} {f : Flow} (hsub : ∀ p ∈ own, p ∈ its) (hwr : ∀ b ∈ wr, ∃ o, (b, o) ∈ its)
    (p : TbPost h₀ L Jn its s₁ Q f s₂) : LoopStepV h₀ L wr own Jn s₁ (fun v s' => Q (.ret v) s') (fun s' => Q .next s') f s₂ := by
  have fin : TbEnd h₀ L Jn its s₁ s₂ → LoopStepU h₀ L wr own Jn s₁ .next s₂ := by
    rintro ⟨h', tk, m', news', nx, e, F', N', hn, ho, ha, hm⟩
    refine ⟨rfl, h', tk, m', nx, e, F', fun p hp => N' p ((List.mem_append.mp hp).elim (fun h => ho p (hsub p h)) (hn p)), fun p hp hq => ?_, hm⟩
    obtain ⟨o, hbo⟩ := hwr _ hq
    exact ha _ hbo p hp rfl
  cases f with
  | ret v => exact p
  | brk => exact p
  | next => exact fin p
  | cont => exact fin p
/-- for i in range(n): the iterator's object is written in the ledger -/
theorem range_inv {r : Addr} {n : Nat} {t₀ u₀ v₀ : Tok} {m₀ : Str → Option Value} {news : List (Addr × Obj)} (J : Nat → (Str → Option Value) → List (Addr × Obj) → Prop)
    (hh : A.handled = none) (hr : IsRange s.heap r 0 (n : Int) 1 t₀ u₀ v₀) (hn : n ≤ 100) (F : Fr h₀ env.locals s.heap m₀) (N : News h₀ env.locals s.heap news) (hj : J 0 m₀ news)
    (turn : ∀ i t m₁ nx h tk I, i < n → (∀ q ∈ nx, @Ne Nat q.1 I) → J i m₁ nx → Fr h₀ env.locals h (fun y => if y = x then some (.int (i : Int) t) else m₁ y) → News h₀ env.locals h ((I, itR ((i : Int) + 1) ((n : Int) - ((i : Int) + 1))) :: nx) →
      wpAny (model prog w) A (execs body env) (TbPost h₀ env.locals (J (i + 1)) [(I, itR ((i : Int) + 1) ((n : Int) - ((i : Int) + 1)))] { s with heap := h, toks := tk } Q) E { s with heap := h, toks := tk })
    (done : ∀ m₁ nx h tk, J n m₁ nx → Fr h₀ env.locals h m₁ → News h₀ env.locals h nx → Q .next { s with heap := h, toks := tk }) :
    wpAny (model prog w) A (pyIter (.ref r)) (fun it s₂ => LoopAtV prog w A h₀ env x body Q E it s₂) E s := by
  have hsz : Builtin.Range.rangeSize 0 (n : Int) 1 = (n : Int) := by unfold Builtin.Range.rangeSize; rw [if_pos (by decide)]; split <;> omega
  have hsm : Builtin.Range.small 0 (n : Int) 1 = true := by
    unfold Builtin.Range.small
    rw [hsz, fits_long (by omega) (by omega), fits_long (by omega) (by omega), fits_long (by omega) (by omega), if_pos (by decide), fits_long (x := (n : Int) + (1 - 1)) (by omega) (by omega), Bool.or_true]
    rfl
  refine wpAny_pyIter_range hr hsm ?_
  have hI0 := next_is_new F
  refine ⟨s.heap.objs.size, [s.heap.objs.size], [s.heap.objs.size], n, fun i v => ∃ t, v = .int (0 + (i : Int) * 1) t, fun i h => IsRangeIter h s.heap.objs.size (0 + (i : Nat) * 1) ((n : Int) - (i : Nat)) 1, m₀, news, J, rfl, Walks.range hh _ 0 1 n, ?_, ?_, ?_, ?_, F.push _, fun p hp => ⟨Heap.get?_push_of_some _ (N p hp).1, (N p hp).2⟩, hj, ?_, ?_⟩
  · intro hm
    exact absurd F.ns.lt ((List.mem_singleton.mp hm) ▸ Nat.lt_irrefl _)
  · intro b hb
    rw [List.mem_singleton.mp hb]
    exact hI0
  · intro p hp hI
    exact absurd (Heap.lt_size (N p hp).1) ((List.mem_singleton.mp hI) ▸ Nat.lt_irrefl _)
  · show IsRangeIter _ _ _ _ _
    rw [hsz]
    simpa using Heap.get?_push_size _ rfl
  · rintro i v m₁ nx s₁ own ⟨h, tk, rfl⟩ hi ⟨t, rfl⟩ hJ hoff hown hget hmem hst F₁ N₁
    have hst' : h.get? s.heap.objs.size = some (itR ((i : Int) + 1) ((n : Int) - ((i : Int) + 1))) := by
      have z : h.get? s.heap.objs.size = some (itR (0 + ((i + 1 : Nat) : Int) * 1) ((n : Int) - ((i + 1 : Nat) : Int))) := hst
      rw [z, show (0 + ((i + 1 : Nat) : Int) * 1) = (i : Int) + 1 by omega, show ((i + 1 : Nat) : Int) = (i : Int) + 1 by omega]
    have hio := hmem _ (.head _) hI0 _ hst'
    rw [show (0 + (i : Int) * 1) = (i : Int) by omega] at F₁
    refine wpAny_mono (turn i t m₁ nx h tk s.heap.objs.size hi (fun q hq e => hoff q hq (by rw [e]; exact .head _)) hJ F₁ fun p hp => ?_) (fun f s₂ p => step_of (fun p hp => ?_) (fun b hb => by rcases List.mem_singleton.mp hb with rfl; exact ⟨_, .head _⟩) p) fun _ _ e => e
    · rcases List.mem_cons.mp hp with rfl | hp
      · exact N₁ _ (List.mem_append_left _ hio)
      · exact N₁ _ (List.mem_append_right _ hp)
    · have e1 := List.mem_singleton.mp (hown p hp)
      have e2 := hget p hp
      rw [e1] at e2
      have e3 := Option.some.inj (e2.symm.trans hst')
      obtain ⟨p1, p2⟩ := p
      cases e1
      cases e3
      exact .head _
  · intro h' tk m' news' F' N' _ hJ
    exact done m' news' h' tk hJ F' N'
/-- for v in a written tuple that stands in the ledger -/
theorem tuple_inv {ax : Addr} {its : List Value} {m₀ : Str → Option Value} {news : List (Addr × Obj)} (J : Nat → (Str → Option Value) → List (Addr × Obj) → Prop)
    (hh : A.handled = none) (F : Fr h₀ env.locals s.heap m₀) (hx : News h₀ env.locals s.heap [(ax, tup its)]) (N : News h₀ env.locals s.heap news) (hj : J 0 m₀ news)
    (turn : ∀ i v m₁ nx h tk I oI ox, its[i]? = some v → (∀ q ∈ nx, @Ne Nat q.1 I) → J i m₁ nx → Fr h₀ env.locals h (fun y => if y = x then some v else m₁ y) → News h₀ env.locals h ((I, oI) :: (ax, ox) :: nx) →
      wpAny (model prog w) A (execs body env) (TbPost h₀ env.locals (J (i + 1)) [(I, oI), (ax, ox)] { s with heap := h, toks := tk } Q) E { s with heap := h, toks := tk })
    (done : ∀ m₁ nx h tk, J its.length m₁ nx → Fr h₀ env.locals h m₁ → News h₀ env.locals h nx → Q .next { s with heap := h, toks := tk }) :
    wpAny (model prog w) A (pyIter (.ref ax)) (fun it s₂ => LoopAtV prog w A h₀ env x body Q E it s₂) E s := by
  have hx0 := hx _ (.head _)
  have ht : s.heap.IsTuple ax its.toArray := ⟨_, hx0.1, rfl, 0, rfl⟩
  refine wpAny_pyIter_tuple ht ?_
  have hI0 := next_is_new F
  have hne : ax ≠ s.heap.objs.size := Nat.ne_of_lt (Heap.lt_size hx0.1)
  have W := Walks.tuple (prog := prog) (w := w) hh s.heap.objs.size ax hne its.toArray
  refine ⟨s.heap.objs.size, _, _, _, _, _, m₀, news, J, rfl, W, ?_, ?_, ?_, ⟨⟨_, Heap.get?_push_size _ rfl, rfl, rfl⟩, ht.at fun o e => Heap.get?_push_of_some _ e⟩, F.push _, fun p hp => ⟨Heap.get?_push_of_some _ (N p hp).1, (N p hp).2⟩, hj, ?_, ?_⟩
  · intro hm
    rcases List.mem_cons.mp hm with e | hm
    · exact absurd F.ns.lt (e ▸ Nat.lt_irrefl _)
    · exact hx0.2.1 (List.mem_singleton.mp hm).symm
  · intro b hb
    rw [List.mem_singleton.mp hb]
    exact hI0
  · intro p hp hI
    exact absurd (Heap.lt_size (N p hp).1) ((List.mem_singleton.mp hI) ▸ Nat.lt_irrefl _)
  · rintro i v m₁ nx s₁ own ⟨h, tk, rfl⟩ hi hv hJ hoff hown hget hmem ⟨⟨oI, hI, hI'⟩, hst2⟩ F₁ N₁
    have hio := hmem s.heap.objs.size (.head _) hI0 _ hI
    obtain ⟨ox, hox, hox'⟩ := hst2
    have hax := hmem ax (.tail _ (.head _)) hx0.2.2 _ hox
    refine wpAny_mono (turn i v m₁ nx h tk s.heap.objs.size oI ox (by simpa using hv) (fun q hq e => hoff q hq (by rw [e]; exact .head _)) hJ F₁ fun p hp => ?_) (fun f s₂ p => step_of (fun p hp => ?_) (fun b hb => by rcases List.mem_singleton.mp hb with rfl; exact ⟨_, .head _⟩) p) fun _ _ e => e
    · rcases List.mem_cons.mp hp with rfl | hp
      · exact N₁ _ (List.mem_append_left _ hio)
      · rcases List.mem_cons.mp hp with rfl | hp
        · exact N₁ _ (List.mem_append_left _ hax)
        · exact N₁ _ (List.mem_append_right _ hp)
    · have e2 := hget p hp
      obtain ⟨p1, p2⟩ := p
      rcases List.mem_cons.mp (hown _ hp) with e1 | e1
      · cases e1
        cases Option.some.inj (e2.symm.trans hI)
        exact .head _
      · cases List.mem_singleton.mp e1
        cases Option.some.inj (e2.symm.trans hox)
        exact .tail _ (.head _)
  · intro h' tk m' news' F' N' _ hJ
    exact done m' news' h' tk (by simpa using hJ) F' N'
end
-- part B2
noncomputable abbrev wds1 (p0 p1 p2 p3 p4 p5 p6 p7 p8 p9 : Tok) : List Value := [.str (Str.ofString "add") p0, .str (Str.ofString "sub") p1, .str (Str.ofString "mul") p2, .str (Str.ofString "div") p3, .str (Str.ofString "pow") p4, .str (Str.ofString "powi") p5, .str (Str.ofString "and") p6, .str (Str.ofString "or") p7, .str (Str.ofString "eqv") p8, .str (Str.ofString "neqv") p9]
theorem wds1_step (p0 p1 p2 p3 p4 p5 p6 p7 p8 p9 : Tok) : ∀ (i : Nat) (v : Value), (wds1 p0 p1 p2 p3 p4 p5 p6 p7 p8 p9)[i]? = some v → ∃ x t, v = .str x t ∧ stored (exKvs.take (3 + i)) x (.ref 395) = exKvs.take (3 + (i + 1))
  | 0, _, h => by cases h; exact ⟨_, _, rfl, by kernel_rfl⟩
  | 1, _, h => by cases h; exact ⟨_, _, rfl, by kernel_rfl⟩
  | 2, _, h => by cases h; exact ⟨_, _, rfl, by kernel_rfl⟩
  | 3, _, h => by cases h; exact ⟨_, _, rfl, by kernel_rfl⟩
  | 4, _, h => by cases h; exact ⟨_, _, rfl, by kernel_rfl⟩
  | 5, _, h => by cases h; exact ⟨_, _, rfl, by kernel_rfl⟩
  | 6, _, h => by cases h; exact ⟨_, _, rfl, by kernel_rfl⟩
  | 7, _, h => by cases h; exact ⟨_, _, rfl, by kernel_rfl⟩
  | 8, _, h => by cases h; exact ⟨_, _, rfl, by kernel_rfl⟩
  | 9, _, h => by cases h; exact ⟨_, _, rfl, by kernel_rfl⟩
  | n + 10, _, h => by cases h
noncomputable abbrev wds2 (p0 p1 p2 p3 p4 p5 : Tok) : List Value := [.str (Str.ofString "eq") p0, .str (Str.ofString "ne") p1, .str (Str.ofString "lt") p2, .str (Str.ofString "le") p3, .str (Str.ofString "gt") p4, .str (Str.ofString "ge") p5]
theorem wds2_step (p0 p1 p2 p3 p4 p5 : Tok) : ∀ (i : Nat) (v : Value), (wds2 p0 p1 p2 p3 p4 p5)[i]? = some v → ∃ x t, v = .str x t ∧ stored (exKvs.take (13 + i)) x (.ref 402) = exKvs.take (13 + (i + 1))
  | 0, _, h => by cases h; exact ⟨_, _, rfl, by kernel_rfl⟩
  | 1, _, h => by cases h; exact ⟨_, _, rfl, by kernel_rfl⟩
  | 2, _, h => by cases h; exact ⟨_, _, rfl, by kernel_rfl⟩
  | 3, _, h => by cases h; exact ⟨_, _, rfl, by kernel_rfl⟩
  | 4, _, h => by cases h; exact ⟨_, _, rfl, by kernel_rfl⟩
  | 5, _, h => by cases h; exact ⟨_, _, rfl, by kernel_rfl⟩
  | n + 6, _, h => by cases h
noncomputable def frP (a? : Option Value) (dw : Addr) (y : Str) : Option Value := if y = Str.ofString "word" then a? else if y = Str.ofString "found" then some (.ref dw) else none
noncomputable def PlInv (w : World) (b : Nat) (dw : Addr) (i : Nat) (m : Str → Option Value) (nx : List (Addr × Obj)) : Prop :=
  ∃ (a? : Option Value) (od : Obj), m = frP a? dw ∧ nx = [(dw, od)] ∧ od.IsDictOf (PySem.strKind PySem.Challenge.rw_zu0017_01.row.prog w) (exKvs.take (b + i))
theorem frP_start {dw : Addr} {z : Str → Option Value} (hz : z (Str.ofString "word") = none) (hz2 : ∀ y, z y = none) (y : Str) : (if y = Str.ofString "found" then some (.ref dw) else z y) = frP none dw y := by
  unfold frP
  by_cases h1 : y = Str.ofString "word"
  · subst h1; rw [if_neg (by decide +kernel), if_pos rfl]; exact hz
  · rw [if_neg h1, hz2]
theorem frP_next {a? : Option Value} {v : Value} {dw : Addr} (y : Str) : (if y = Str.ofString "word" then some v else frP a? dw y) = frP (some v) dw y := by
  unfold frP
  by_cases h1 : y = Str.ofString "word"
  · subst h1; rfl
  · simp only [if_neg h1]
theorem pl_len (b i : Nat) : (exKvs.take (b + i)).length ≤ sizeLine := by
  rw [sizeLine_eq]
  exact Nat.le_trans (List.length_take_le' _ _) (by decide)
theorem pl_end {w : World} {h₀ h' : Heap} {L I ax dw : Addr} {oI ox o' : Obj} {m' : Str → Option Value} {s₁ : Shared} {tk b i : Nat} {a? : Option Value} (F : Fr h₀ L h' m') (N : News h₀ L h' [(I, oI), (ax, ox), (dw, o')]) (h1 : dw ≠ I) (h2 : dw ≠ ax) (hm : m' = frP a? dw) (hd : o'.IsDictOf (PySem.strKind PySem.Challenge.rw_zu0017_01.row.prog w) (exKvs.take (b + i))) :
    TbEnd h₀ L (PlInv w b dw i) [(I, oI), (ax, ox)] s₁ { s₁ with heap := h', toks := tk } := by
  refine ⟨h', tk, m', _, [(dw, o')], rfl, F, N, fun p hp => ?_, fun p hp => ?_, fun p hp q hq => ?_, a?, o', hm, rfl, hd⟩
  · rcases List.mem_singleton.mp hp with rfl; exact .tail _ (.tail _ (.head _))
  · rcases List.mem_cons.mp hp with rfl | hp
    · exact .head _
    · rcases List.mem_singleton.mp hp with rfl; exact .tail _ (.head _)
  · rcases List.mem_singleton.mp hq with rfl
    rcases List.mem_cons.mp hp with rfl | hp
    · exact Ne.symm h1
    · rcases List.mem_singleton.mp hp with rfl; exact Ne.symm h2
set_option maxHeartbeats 8000000 in
theorem plain_ok (w : World) (s : Shared) : Makes w 409 3 [] s (fun tl v => OneDict w exKvs tl v) := by
  intro loose mean mg mb dp un gd cn cs a ccd cl outer A₀ base h₀ L m Q E C hd hret
  w_top off
  have X0 := C.X; revert X0; k_fill; intro X0
  have N : News h₀ L s.heap [] := fun _ h => nomatch h
  (refine wpAny_call ?_; k_dflt (refine' enter _ ?k1 ?k2 ?k3 ?k4 ?k5 ?kA ?kF ?kK ?k6 ?k7 ?k8 ?k9 ?kB ?_ ?c2 ?c3 ?c4 ?c5; (case kA => exact rfl); (case kF => exact rfl); (case kK => exact Cx.k (by assumption)); (case k1 => exact Cx.B (by assumption)); (case k2 => exact Cx.F (by assumption)); (case k3 => exact Cx.X (by assumption)); (case k4 => assumption); (case k5 => exact Cx.T (by assumption)); (case k6 => k_is); (case k7 => k_is); (case k8 => k_room); (case k9 => exact BindsTo.of_eq rfl); (case c5 => decide); (case kB => exact locs rfl); (case c2 => exact rfl); (case c3 => exact rfl); (case c4 => exact rfl); k_whole))
  intro g' L' h' hg FG' F' N' B' X' T'
  have hgg : ∀ b o, s.heap.get? b = some o → g'.get? b = some o := fun b o e => hg b o e (by simp)
  (try dsimp only)
  (with_reducible show wpAny _ _ _ _ _ _)
  k_fold
  clear hg
  k_with_none
  k_with "k_room" => (((try simp only [depth_mark, depth_under_make, depth_under_kw, depth_in1, depth_deeper, depth_caller]); (try dsimp only [ktrTop]); (try simp only [recursionLimit]); (first | exact rmk (by assumption) (by exact Nat.le_of_ble_eq_true rfl) | exact rmk1 (by assumption) (by exact Nat.le_of_ble_eq_true rfl) | exact rmk2 (by assumption) (by exact Nat.le_of_ble_eq_true rfl) | exact rmk3 (by assumption) (by exact Nat.le_of_ble_eq_true rfl) | exact rmk4 (by assumption) (by exact Nat.le_of_ble_eq_true rfl) | exact rmk0 (by assumption) | omega)))
  k_with "k_mem" => ((change (_ ∈ (_ : List (Addr × Obj))); ktr_member))
  k_with "k_mem" => (((change (_ ∈ ((_ ++ _) : List (Addr × Obj)))); first | (refine List.mem_append.mpr (Or.inl ?_); k_mem) | (refine List.mem_append.mpr (Or.inr ?_); k_mem)))
  k_with "binaryOp LShift int int" => (((refine lshift_int_small (by decide) (by decide) (by decide) ?_); rw [show ((1:Int) * 2 ^ ((32:Int) - 1).toNat) = 2147483648 from rfl]))
  k_with "storeName" => (k_dflt (refine' storeX_any ?F ?N ?_ ?a ?b; (case F => k_asm); (case N => k_asm); (case a => rfl); (case b => rfl); k_whole); intro h' tk' F' N'; (try k_sweep))
  k_with "eval Call Name cons nil" => (refine Call_ ?_)
  k_with "eval Call Attribute cons nil" => (refine MethodCall_ ?_)
  k_with "spliced" => (first | ((with_reducible show wpAny _ _ (spliced (backTo _ (starEach (PySem.Expr.Name _ _ :: _) _))) _ _ _); k_dflt (refine' args_loc ?F ?v ?a ?b ?c ?_; (case F => k_asm); (case a => rfl); (case b => rfl); (case v => rfl); (case c => decide))) | ((with_reducible show wpAny _ _ (spliced (backTo _ (starEach (PySem.Expr.Constant (Const.int _) _ _ :: _) _))) _ _ _); refine args_int ?_) | ((with_reducible show wpAny _ _ (spliced (backTo _ (starEach (PySem.Expr.Constant (Const.str _) _ _ :: _) _))) _ _ _); refine args_str ?_))
  k_with "eval Attribute Name" => (k_dflt (refine' attr_loc ?F ?v ?a ?b ?c ?_; (case F => k_asm); (case a => rfl); (case b => rfl); (case v => rfl); (case c => decide)))
  k_with "eval Subscript" => (first | ((with_reducible show wpAny _ _ (eval (PySem.Expr.Subscript (PySem.Expr.Name _ _) (PySem.Expr.Constant (Const.int _) _ _) _) _) _ _ _); k_dflt (refine' sub_loc_int ?F ?v ?a ?b ?c ?_; (case F => k_asm); (case a => rfl); (case b => rfl); (case v => rfl); (case c => decide))) | ((with_reducible show wpAny _ _ (eval (PySem.Expr.Subscript (PySem.Expr.Name _ _) _ _) _) _ _ _); k_dflt (refine' sub_loc ?F ?v ?a ?b ?c ?_; (case F => k_asm); (case a => rfl); (case b => rfl); (case v => rfl); (case c => decide))))
  iterate 17 (first | (k_unfold; (try dsimp only)) | (k_end; wrow_close) | walk1 | (dsimp only; walk1) | (leave1; (try dsimp only)) | fail "no step")
  with_reducible refine' For_invV g' ?k1 ?k2 ?_ ?k4 ?k5
  case k1 => exact rfl
  case k2 => exact rfl
  case k4 => intro x; rfl
  case k5 => passes_own
  iterate 13 (first | (k_unfold; (try dsimp only)) | (k_end; wrow_close) | walk1 | (dsimp only; walk1) | (leave1; (try dsimp only)) | fail "no step")
  (with_reducible rename (_ : Nat) < (_ : Nat) => ltax)
  refine tuple_inv (its := wds1 _ _ _ _ _ _ _ _ _ _) (PlInv w 3 _) (by rfl) (by k_asm) (news_sub (by k_asm) (fmc (.head _) (List.forall_mem_nil _))) (news_sub (lt' := [_]) (by k_asm) (fmc (.tail _ (.head _)) (List.forall_mem_nil _))) ⟨none, _, funext (frP_start rfl fun _ => rfl), rfl, by assumption⟩ ?_ ?_
  · rintro i v m₁ nx h tk I oI ox hv hoff ⟨at?, od, rfl, rfl, hd9⟩ F5 N5
    obtain ⟨x9, t9, rfl, hst9⟩ := wds1_step _ _ _ _ _ _ _ _ _ _ i v hv
    have n1 := hoff _ (.head _)
    have n2 := Nat.ne_of_lt ltax
    (with_reducible show wpAny _ _ _ _ _ _)
    k_fold
    k_with "setItem ref str" => (k_dflt (refine' kda_set (knd := PySem.strKind _ _) ?F ?N ?U hd9 (strKind_is _ _ _ _) (pl_len _ _) ?_; (case F => k_asm); (case N => k_asm); (case U => exact .tail (Ne.symm n1) (.tail (Ne.symm n2) (.head fun _ h => nomatch h)))); intro h' o' F' N' hd'; (try dsimp only at N'); rw [hst9] at hd')
    repeat (first | (k_unfold; (try dsimp only)) | (k_end; wrow_close) | walk1 | (dsimp only; walk1) | (leave1; (try dsimp only)) | fail "no step")
    exact pl_end (by k_asm) (by k_asm) n1 n2 (funext frP_next) (by assumption)
  · rintro m₁ nx h tk ⟨at?, od, rfl, rfl, hd9⟩ F5 N5
    (with_reducible show wpAny _ _ _ _ _ _)
    iterate 1 (first | (k_unfold; (try dsimp only)) | (k_end; wrow_close) | walk1 | (dsimp only; walk1) | (leave1; (try dsimp only)) | fail "no step")
    with_reducible refine' For_invV g' ?k1 ?k2 ?_ ?k4 ?k5
    case k1 => exact rfl
    case k2 => exact rfl
    case k4 => intro x; rfl
    case k5 => passes_own
    iterate 9 (first | (k_unfold; (try dsimp only)) | (k_end; wrow_close) | walk1 | (dsimp only; walk1) | (leave1; (try dsimp only)) | fail "no step")
    (with_reducible rename (_ : Nat) < (_ : Nat) => ltax)
    refine tuple_inv (its := wds2 _ _ _ _ _ _) (PlInv w 13 _) (by rfl) (by k_asm) (news_sub (by k_asm) (fmc (.head _) (List.forall_mem_nil _))) (news_sub (lt' := [_]) (by k_asm) (fmc (.tail _ (.head _)) (List.forall_mem_nil _))) ⟨at?, _, rfl, rfl, hd9⟩ ?_ ?_
    · rintro i v m₁ nx h tk I oI ox hv hoff ⟨at?, od, rfl, rfl, hd9⟩ F5 N5
      obtain ⟨x9, t9, rfl, hst9⟩ := wds2_step _ _ _ _ _ _ i v hv
      have n1 := hoff _ (.head _)
      have n2 := Nat.ne_of_lt ltax
      (with_reducible show wpAny _ _ _ _ _ _)
      k_fold
      k_with "setItem ref str" => (k_dflt (refine' kda_set (knd := PySem.strKind _ _) ?F ?N ?U hd9 (strKind_is _ _ _ _) (pl_len _ _) ?_; (case F => k_asm); (case N => k_asm); (case U => exact .tail (Ne.symm n1) (.tail (Ne.symm n2) (.head fun _ h => nomatch h)))); intro h' o' F' N' hd'; (try dsimp only at N'); rw [hst9] at hd')
      repeat (first | (k_unfold; (try dsimp only)) | (k_end; wrow_close) | walk1 | (dsimp only; walk1) | (leave1; (try dsimp only)) | fail "no step")
      exact pl_end (by k_asm) (by k_asm) n1 n2 (funext frP_next) (by assumption)
    · rintro m₁ nx h tk ⟨at?, od, rfl, rfl, hd9⟩ F5 N5
      (with_reducible show wpAny _ _ _ _ _ _)
      repeat (first | (k_unfold; (try dsimp only)) | (k_end; wrow_close) | walk1 | (dsimp only; walk1) | (leave1; (try dsimp only)) | fail "no step")
      refine fun H => hret _ _ _ _ (H fun _ h => nomatch h) (by k_asm) (fresh_of hgg (by k_asm)) ⟨_, _, rfl, by k_mem, hd9, by assumption⟩
-- part T5
structure Fw where
  (k0 k1 k2 k3 k4 : Tok)
  (d0 d1 d2 d3 d4 : Addr)
noncomputable abbrev flowD (w : World) (q : Fw) : Obj := dictOf [ent w "labels" q.k0 (.ref q.d0), ent w "next_arm" q.k1 (.ref q.d1), ent w "block_end" q.k2 (.ref q.d2), ent w "do_end" q.k3 (.ref q.d3), ent w "ending" q.k4 (.ref q.d4)] 5
/-- what flow_of makes -/
noncomputable def FlowIs (w : World) (nx : List (Int × Value)) (tl : List (Addr × Obj)) (v : Value) : Prop :=
  ∃ (fw fd : Addr) (q : Fw) (o1 o4 : Obj), v = .ref fw ∧ (fw, instObj 426 fd) ∈ tl ∧ (fd, flowD w q) ∈ tl ∧ (q.d1, o1) ∈ tl ∧ o1.IsDictOf (PySem.intKind PySem.Challenge.rw_zu0017_01.row.prog w) nx ∧ (q.d1 == sysModules) = false ∧ (q.d4, o4) ∈ tl ∧ o4.IsDictOf (PySem.intKind PySem.Challenge.rw_zu0017_01.row.prog w) [] ∧ (q.d4 == sysModules) = false
theorem tup_item0 {prog : Program} {w : World} {A : Around} {E : Value → Shared → Prop} {s : Shared} {value slice : PySem.Expr} {t : Addr} {x : Value} {r : List Value} {u : Tok} {Q : Value → Shared → Prop} (ht : IsTup s.heap t (x :: r).toArray) (h : Q x s)
    (hs : subscripted slice false (.ref t) (.int 0 u) = operate [.ref t, .int 0 u] (getItem (.ref t) (.int 0 u))) :
    wpAny (model prog w) A (subscriptTail value slice (.ref t) (.int 0 u)) Q E s :=
  item_tupleT (j := 0) ht (by decide) (by decide) (by unfold seqIndex?; simp) rfl h hs
structure Row where
  (r s : Addr)
  (k1 k2 k3 : Tok)
  (w : String)
  (vs : List Value)
noncomputable def RowAt (h : Heap) (q : Row) : Prop := h.get? q.r = some (tup [.int 0 q.k1, .ref q.s, .int 1 q.k2]) ∧ h.get? q.s = some (tup (.str (Str.ofString q.w) q.k3 :: q.vs))
/-- a list of statements with one IF block at a .. b, or none within it -/
structure Shape (rs : List Row) (a b : Nat) : Prop where
  at_ : ∀ i q, rs[i]? = some q → (i ≠ a ∧ i ≠ b ∧ (q.w = "assign" ∨ q.w = "end")) ∨ (i = a ∧ q.w = "if") ∨ (i = b ∧ q.w = "endif")
  ab : a < b
  n : b < rs.length ∨ rs.length ≤ a
  small : rs.length ≤ 100
theorem row_at {rs : List Row} {i : Nat} {q : Row} (h : rs[i]? = some q) : (rs.map fun q => Value.ref q.r).toArray[((i : Int)).toNat]? = some (.ref q.r) := by simp [h]
noncomputable def frF (a? l? s? : Option Value) (lo bl fw stl : Addr) (y : Str) : Option Value :=
  if y = Str.ofString "stmt" then s? else if y = Str.ofString "label" then l? else if y = Str.ofString "at" then a? else if y = Str.ofString "loops" then some (.ref lo) else if y = Str.ofString "blocks" then some (.ref bl) else if y = Str.ofString "flow" then some (.ref fw) else if y = Str.ofString "statements" then some (.ref stl) else none
theorem frF_next {a? l? s? : Option Value} {v1 v2 v3 : Value} {lo bl fw stl : Addr} (y : Str) : (if y = Str.ofString "stmt" then some v3 else if y = Str.ofString "label" then some v2 else if y = Str.ofString "at" then some v1 else frF a? l? s? lo bl fw stl y) = frF (some v1) (some v2) (some v3) lo bl fw stl y := by
  unfold frF
  by_cases h1 : y = Str.ofString "stmt"
  · simp only [if_pos h1]
  · by_cases h2 : y = Str.ofString "label"
    · simp only [if_neg h1, if_pos h2]
    · by_cases h3 : y = Str.ofString "at"
      · simp only [if_neg h1, if_neg h2, if_pos h3]
      · simp only [if_neg h1, if_neg h2, if_neg h3]
theorem frF_start {lo bl fw stl : Addr} (y : Str) : (if y = Str.ofString "loops" then some (.ref lo) else if y = Str.ofString "blocks" then some (.ref bl) else if y = Str.ofString "flow" then some (.ref fw) else List.lookup y [(Str.ofString "statements", Value.ref stl)]) = frF none none none lo bl fw stl y := by
  unfold frF
  by_cases h1 : y = Str.ofString "stmt"
  · subst h1; rfl
  · by_cases h2 : y = Str.ofString "label"
    · subst h2; rfl
    · by_cases h3 : y = Str.ofString "at"
      · subst h3; rfl
      · simp only [if_neg h1, if_neg h2, if_neg h3]
        by_cases h4 : y = Str.ofString "statements"
        · subst h4; rfl
        · rw [if_neg h4, List.lookup_cons, beq_eq_false_iff_ne.mpr h4]; rfl
noncomputable abbrev flowL (w : World) (q : Fw) (fw fd lo bl bk : Addr) (olo ob obk o0 o1 o2 o3 o4 : Obj) : List (Addr × Obj) := [(bk, obk), (lo, olo), (bl, ob), (q.d4, o4), (q.d3, o3), (q.d2, o2), (q.d1, o1), (q.d0, o0), (fw, instObj 426 fd), (fd, flowD w q)]
structure Dist (q : Fw) (fw fd lo bl bk : Addr) : Prop where
  e1 : @Ne Nat bk bl
  e2 : @Ne Nat bk q.d1
  e3 : @Ne Nat bk q.d2
/-- the three ways a list of statements may lie open ahead of turn i -/
noncomputable def Phase (a b i : Nat) (bk : Addr) (ob obk : Obj) (kv1 kv2 : List (Int × Value)) : Prop :=
  (i ≤ a ∧ (∃ nb, ob = listOf #[] nb) ∧ kv1 = [] ∧ kv2 = []) ∨ (a < i ∧ i ≤ b ∧ (∃ nb, ob = listOf #[.ref bk] nb) ∧ (∃ t nk, obk = listOf #[.int a t] nk) ∧ kv1 = [] ∧ kv2 = []) ∨ (b < i ∧ (∃ nb, ob = listOf #[] nb) ∧ ∃ t, kv1 = [((a : Int), .int b t)])
/-- what stands ahead of turn i -/
inductive FlInv (w : World) (a b : Nat) (q : Fw) (fw fd lo bl stl : Addr) (o0 o3 o4 : Obj) (i : Nat) (m : Str → Option Value) (nx : List (Addr × Obj)) : Prop
  | mk (a? l? s? : Option Value) (bk : Addr) (ob obk o1 o2 : Obj) (kv1 kv2 : List (Int × Value)) (f0 : m = frF a? l? s? lo bl fw stl) (f1 : nx = flowL w q fw fd lo bl bk (listOf #[] 0) ob obk o0 o1 o2 o3 o4) (f2 : Dist q fw fd lo bl bk) (f3 : o1.IsDictOf (PySem.intKind PySem.Challenge.rw_zu0017_01.row.prog w) kv1) (f4 : o2.IsDictOf (PySem.intKind PySem.Challenge.rw_zu0017_01.row.prog w) kv2) (f5 : Phase a b i bk ob obk kv1 kv2) : FlInv w a b q fw fd lo bl stl o0 o3 o4 i m nx
theorem Phase.plain {a b i : Nat} {bk : Addr} {ob obk : Obj} {kv1 kv2 : List (Int × Value)} (h : Phase a b i bk ob obk kv1 kv2) (na : i ≠ a) (nb : i ≠ b) : Phase a b (i + 1) bk ob obk kv1 kv2 := by
  rcases h with ⟨h1, h2⟩ | ⟨h1, h2, h3⟩ | ⟨h1, h2⟩
  · exact Or.inl ⟨by omega, h2⟩
  · exact Or.inr (Or.inl ⟨by omega, by omega, h3⟩)
  · exact Or.inr (Or.inr ⟨by omega, h2⟩)
theorem Phase.opn {a b i : Nat} {bk : Addr} {ob obk : Obj} {kv1 kv2 : List (Int × Value)} (h : Phase a b i bk ob obk kv1 kv2) (ia : i = a) (ab : a < b) : i ≤ a ∧ (∃ nb, ob = listOf #[] nb) ∧ kv1 = [] ∧ kv2 = [] := by
  rcases h with h | ⟨h1, h2, h3⟩ | ⟨h1, h2⟩
  · exact h
  · omega
  · omega
theorem Phase.cls {a b i : Nat} {bk : Addr} {ob obk : Obj} {kv1 kv2 : List (Int × Value)} (h : Phase a b i bk ob obk kv1 kv2) (ib : i = b) (ab : a < b) : (∃ nb, ob = listOf #[.ref bk] nb) ∧ (∃ t nk, obk = listOf #[.int a t] nk) ∧ kv1 = [] ∧ kv2 = [] := by
  rcases h with ⟨h1, h2⟩ | ⟨h1, h2, h3⟩ | ⟨h1, h2⟩
  · omega
  · exact h3
  · omega
theorem Phase.shut {rs : List Row} {a b : Nat} {bk : Addr} {ob obk : Obj} {kv1 kv2 : List (Int × Value)} (h : Phase a b rs.length bk ob obk kv1 kv2) (sh : Shape rs a b) : ∃ nb, ob = listOf #[] nb := by
  rcases h with ⟨h1, h2, _⟩ | ⟨h1, h2, h3⟩ | ⟨h1, h2, _⟩
  · exact h2
  · have := sh.n; have := sh.ab; omega
  · exact h2
theorem Phase.filled {rs : List Row} {a b : Nat} {bk : Addr} {ob obk : Obj} {kv1 kv2 : List (Int × Value)} (h : Phase a b rs.length bk ob obk kv1 kv2) (sh : Shape rs a b) (hb : b < rs.length) : ∃ t, kv1 = [((a : Int), .int b t)] := by
  rcases h with ⟨h1, h2, _⟩ | ⟨h1, h2, h3⟩ | ⟨h1, h2, h3⟩
  · have := sh.ab; omega
  · omega
  · exact h3
theorem fl_end {w : World} {a b i : Nat} {q : Fw} {fw fd lo bl stl bk I : Addr} {o0 o3 o4 ob obk o1 o2 oI : Obj} {kv1 kv2 : List (Int × Value)} {h₀ h' : Heap} {L : Addr} {m' : Str → Option Value} {s₁ : Shared} {tk : Nat} {all : List (Addr × Obj)} {a? l? s? : Option Value}
    (F : Fr h₀ L h' m') (N : News h₀ L h' all) (sub : ∀ p ∈ (I, oI) :: flowL w q fw fd lo bl bk (listOf #[] 0) ob obk o0 o1 o2 o3 o4, p ∈ all) (off : ∀ p ∈ flowL w q fw fd lo bl bk (listOf #[] 0) ob obk o0 o1 o2 o3 o4, @Ne Nat p.1 I) (hm : m' = frF a? l? s? lo bl fw stl) (di : Dist q fw fd lo bl bk)
    (h1 : o1.IsDictOf (PySem.intKind PySem.Challenge.rw_zu0017_01.row.prog w) kv1) (h2 : o2.IsDictOf (PySem.intKind PySem.Challenge.rw_zu0017_01.row.prog w) kv2) (ph : Phase a b i bk ob obk kv1 kv2) : TbEnd h₀ L (FlInv w a b q fw fd lo bl stl o0 o3 o4 i) [(I, oI)] s₁ { s₁ with heap := h', toks := tk } := by
  refine ⟨h', tk, m', all, flowL w q fw fd lo bl bk (listOf #[] 0) ob obk o0 o1 o2 o3 o4, rfl, F, N, fun p hp => sub p (.tail _ hp), fun p hp => ?_, fun p hp x hx => ?_, a?, l?, s?, bk, ob, obk, o1, o2, kv1, kv2, hm, rfl, di, h1, h2, ph⟩
  · rcases List.mem_singleton.mp hp with rfl; exact sub _ (.head _)
  · rcases List.mem_singleton.mp hp with rfl; exact Ne.symm (off x hx)
theorem eq_no {prog : Program} {w : World} {A : Around} {E : Value → Shared → Prop} {s : Shared} {x y : Str} {t u : Tok} {Q : Value → Shared → Prop} (h : (x == y) = false) (q : Q (.bool false) s) : wpAny (model prog w) A (compareOp .Eq (.str x t) (.str y u)) Q E s :=
  eq_str (by rw [h]; exact q)
theorem in_no {prog : Program} {w : World} {A : Around} {E : Value → Shared → Prop} {s : Shared} {t : Addr} {items : Array Value} {ys : List Str} {x : Str} {u : Tok} {Q : Value → Shared → Prop} (ht : IsTup s.heap t items) (hi : StrsAre items.toList ys) (h : ys.any (· == x) = false) (q : Q (.bool false) s) : wpAny (model prog w) A (compareOp .In (.str x u) (.ref t)) Q E s :=
  in_tuple_strs ht hi (by rw [h]; exact q)
set_option maxHeartbeats 8000000 in
theorem flow_ok (w : World) (s : Shared) {stl : Addr} {ln pa pb : Nat} {rs : List Row} (sh : Shape rs pa pb) (hst : s.heap.get? stl = some (lstN (rs.map fun q => .ref q.r) ln)) (hrs : ∀ q ∈ rs, RowAt s.heap q) :
    Makes w 465 20 [.ref stl] s (fun tl v => ∃ kvs, FlowIs w kvs tl v ∧ (pb < rs.length → ∃ t, kvs = [((pa : Int), .int pb t)])) := by
  have hsm := sh.small
  have hsz : (((rs.map fun q => Value.ref q.r).toArray.size : Nat) : Int) = (rs.length : Int) := by simp
  intro loose mean mg mb dp un gd cn cs a ccd cl outer A₀ base h₀ L m Q E C hd hret
  w_top off
  have X0 := C.X; revert X0; k_fill; intro X0
  have N : News h₀ L s.heap [] := fun _ h => nomatch h
  (refine wpAny_call ?_; k_dflt (refine' enter _ ?k1 ?k2 ?k3 ?k4 ?k5 ?kA ?kF ?kK ?k6 ?k7 ?k8 ?k9 ?kB ?_ ?c2 ?c3 ?c4 ?c5; (case kA => exact rfl); (case kF => exact rfl); (case kK => exact Cx.k (by assumption)); (case k1 => exact Cx.B (by assumption)); (case k2 => exact Cx.F (by assumption)); (case k3 => exact Cx.X (by assumption)); (case k4 => assumption); (case k5 => exact Cx.T (by assumption)); (case k6 => k_is); (case k7 => k_is); (case k8 => k_room); (case k9 => exact BindsTo.of_eq rfl); (case c5 => decide); (case kB => exact locs rfl); (case c2 => exact rfl); (case c3 => exact rfl); (case c4 => exact rfl); k_whole))
  intro g' L' h' hg FG' F' N' B' X' T'
  have hgg : ∀ b o, s.heap.get? b = some o → g'.get? b = some o := fun b o e => hg b o e (by simp)
  (try dsimp only)
  (with_reducible show wpAny _ _ _ _ _ _)
  k_fold
  have h8 : g'.IsList stl (rs.map fun q => Value.ref q.r).toArray := ⟨_, hgg _ _ hst, rfl, ln, rfl⟩
  clear hg
  have dz : DescN 0 (List.map (·.1) ([] : List (Addr × Obj))) := trivial
  k_with_none
  k_with "k_room" => (((try simp only [depth_mark, depth_under_make, depth_under_kw, depth_in1, depth_deeper, depth_caller]); (try dsimp only [ktrTop]); (try simp only [recursionLimit]); (first | exact rmk (by assumption) (by exact Nat.le_of_ble_eq_true rfl) | exact rmk1 (by assumption) (by exact Nat.le_of_ble_eq_true rfl) | exact rmk2 (by assumption) (by exact Nat.le_of_ble_eq_true rfl) | exact rmk3 (by assumption) (by exact Nat.le_of_ble_eq_true rfl) | exact rmk4 (by assumption) (by exact Nat.le_of_ble_eq_true rfl) | exact rmk0 (by assumption) | omega)))
  k_with "k_mem" => ((change (_ ∈ (_ : List (Addr × Obj))); ktr_member))
  k_with "k_mem" => (((change (_ ∈ ((_ ++ _) : List (Addr × Obj)))); first | (refine List.mem_append.mpr (Or.inl ?_); k_mem) | (refine List.mem_append.mpr (Or.inr ?_); k_mem)))
  k_with "binaryOp LShift int int" => (((refine lshift_int_small (by decide) (by decide) (by decide) ?_); rw [show ((1:Int) * 2 ^ ((32:Int) - 1).toNat) = 2147483648 from rfl]))
  k_with "k_lt" => ((rename (∀ p ∈ (_ : List (Addr × Obj)), p.1 < _) => l9); (rename DescN _ _ => d9); k_dflt (replace l9 := desc_consA d9 rfl l9))
  k_with "k_lt2" => ((rename ((_ : Nat) < _) => l8); k_dflt (replace l8 := desc_cons2 (by assumption) l8))
  k_with "tb_start" => (first | exact UpdN.head | (refine' UpdN.tail ?b; (case b => tb_start)))
  k_with "k_upd" => (refine' UpdN.upd ?u9 ?d9 ?l9; (case u9 => tb_start); (case d9 => assumption); (case l9 => decide))
  k_with "storeName" => (k_dflt (refine' storeX_any ?F ?N ?_ ?a ?b; (case F => k_asm); (case N => k_asm); (case a => rfl); (case b => rfl); k_whole); intro h' tk' F' N'; (try k_sweep))
  k_with "eval Call Name cons nil" => (refine Call_ ?_)
  k_with "eval Call Attribute cons nil" => (refine MethodCall_ ?_)
  k_with "spliced" => (first | ((with_reducible show wpAny _ _ (spliced (backTo _ (starEach (PySem.Expr.Name _ _ :: _) _))) _ _ _); k_dflt (refine' args_loc ?F ?v ?a ?b ?c ?_; (case F => k_asm); (case a => rfl); (case b => rfl); (case v => rfl); (case c => decide))) | ((with_reducible show wpAny _ _ (spliced (backTo _ (starEach (PySem.Expr.Constant (Const.int _) _ _ :: _) _))) _ _ _); refine args_int ?_) | ((with_reducible show wpAny _ _ (spliced (backTo _ (starEach (PySem.Expr.Constant (Const.str _) _ _ :: _) _))) _ _ _); refine args_str ?_))
  k_with "eval Attribute Name" => (k_dflt (refine' attr_loc ?F ?v ?a ?b ?c ?_; (case F => k_asm); (case a => rfl); (case b => rfl); (case v => rfl); (case c => decide)))
  k_with "eval Subscript" => (first | ((with_reducible show wpAny _ _ (eval (PySem.Expr.Subscript (PySem.Expr.Name _ _) (PySem.Expr.Constant (Const.int _) _ _) _) _) _ _ _); k_dflt (refine' sub_loc_int ?F ?v ?a ?b ?c ?_; (case F => k_asm); (case a => rfl); (case b => rfl); (case v => rfl); (case c => decide))) | ((with_reducible show wpAny _ _ (eval (PySem.Expr.Subscript (PySem.Expr.Name _ _) _ _) _) _ _ _); k_dflt (refine' sub_loc ?F ?v ?a ?b ?c ?_; (case F => k_asm); (case a => rfl); (case b => rfl); (case v => rfl); (case c => decide))))
  k_with "call builtin:len cons nil" => ((refine len_list (stays_list (Fr.keep (by k_asm)) h8) (by rw [hsz]; omega) ?_); rw [hsz])
  iterate 62 (first | (k_unfold; (try dsimp only)) | (k_end; wrow_close) | walk1 | (dsimp only; walk1) | (leave1; (try dsimp only)) | fail "no step")
  have N9 := (by k_asm : News g' L' _ _)
  have N8 := news_sub (lt' := flowL w ⟨_, _, _, _, _, _, _, _, _, _⟩ _ _ _ _ _ _ _ _ _ _ _ _ _) N9 (by dsimp only [flowL, flowD]; exact fmc (.head _) ((fmc (.head _) ((fmc (.tail _ (.head _)) ((fmc (.tail _ (.tail _ (.head _))) ((fmc (.tail _ (.tail _ (.tail _ (.head _)))) ((fmc (.tail _ (.tail _ (.tail _ (.tail _ (.head _))))) ((fmc (.tail _ (.tail _ (.tail _ (.tail _ (.tail _ (.head _)))))) ((fmc (.tail _ (.tail _ (.tail _ (.tail _ (.tail _ (.tail _ (.head _))))))) ((fmc (.tail _ (.tail _ (.tail _ (.tail _ (.tail _ (.tail _ (.tail _ (.head _)))))))) ((fmc (.tail _ (.tail _ (.tail _ (.tail _ (.tail _ (.tail _ (.tail _ (.tail _ (.head _))))))))) (List.forall_mem_nil _))))))))))))))))))))
  rename DescN _ _ => dq
  have z01 := Nat.ne_of_gt (dq.1 _ (.head _))
  have z21 := Nat.ne_of_lt (dq.2.1 _ (.head _))
  have z31 := Nat.ne_of_lt (dq.2.1 _ (.tail _ (.head _)))
  have z41 := Nat.ne_of_lt (dq.2.1 _ (.tail _ (.tail _ (.head _))))
  have z51 := Nat.ne_of_lt (dq.2.1 _ (.tail _ (.tail _ (.tail _ (.head _)))))
  have z61 := Nat.ne_of_lt (dq.2.1 _ (.tail _ (.tail _ (.tail _ (.tail _ (.head _))))))
  have z71 := Nat.ne_of_lt (dq.2.1 _ (.tail _ (.tail _ (.tail _ (.tail _ (.tail _ (.head _)))))))
  have z81 := Nat.ne_of_lt (dq.2.1 _ (.tail _ (.tail _ (.tail _ (.tail _ (.tail _ (.tail _ (.head _))))))))
  have z04 := Nat.ne_of_gt (dq.1 _ (.tail _ (.tail _ (.tail _ (.head _)))))
  have z14 := Nat.ne_of_gt (dq.2.1 _ (.tail _ (.tail _ (.head _))))
  have z24 := Nat.ne_of_gt (dq.2.2.1 _ (.tail _ (.head _)))
  have z34 := Nat.ne_of_gt (dq.2.2.2.1 _ (.head _))
  have z54 := Nat.ne_of_lt (dq.2.2.2.2.1 _ (.head _))
  have z64 := Nat.ne_of_lt (dq.2.2.2.2.1 _ (.tail _ (.head _)))
  have z74 := Nat.ne_of_lt (dq.2.2.2.2.1 _ (.tail _ (.tail _ (.head _))))
  have z84 := Nat.ne_of_lt (dq.2.2.2.2.1 _ (.tail _ (.tail _ (.tail _ (.head _)))))
  have z05 := Nat.ne_of_gt (dq.1 _ (.tail _ (.tail _ (.tail _ (.tail _ (.head _))))))
  have z15 := Nat.ne_of_gt (dq.2.1 _ (.tail _ (.tail _ (.tail _ (.head _)))))
  have z25 := Nat.ne_of_gt (dq.2.2.1 _ (.tail _ (.tail _ (.head _))))
  have z35 := Nat.ne_of_gt (dq.2.2.2.1 _ (.tail _ (.head _)))
  have z45 := Nat.ne_of_gt (dq.2.2.2.2.1 _ (.head _))
  have z65 := Nat.ne_of_lt (dq.2.2.2.2.2.1 _ (.head _))
  have z75 := Nat.ne_of_lt (dq.2.2.2.2.2.1 _ (.tail _ (.head _)))
  have z85 := Nat.ne_of_lt (dq.2.2.2.2.2.1 _ (.tail _ (.tail _ (.head _))))
  clear dq
  refine range_inv (n := rs.length) (FlInv w pa pb ⟨_, _, _, _, _, _, _, _, _, _⟩ _ _ _ _ stl _ _ _) (by rfl) (by assumption) hsm (by k_asm) N8 ⟨none, none, none, _, _, _, _, _, [], [], funext frF_start, rfl, ⟨z01, z05, z04⟩, by assumption, by assumption, Or.inl ⟨Nat.zero_le _, ⟨_, rfl⟩, rfl, rfl⟩⟩ ?_ ?_
  · rintro i t m₁ nx h tk I hi hoff ⟨a?, l?, s?, bk, ob, obk, o1, o2, kv1, kv2, rfl, rfl, ⟨di1, di2, di3⟩, hd1, hd2, ph⟩ F5 N5
    obtain ⟨q9, hq⟩ : ∃ q, rs[i]? = some q := ⟨rs[i], List.getElem?_eq_getElem hi⟩
    obtain ⟨hr9, hs9⟩ := hrs q9 (List.mem_of_getElem? hq)
    replace hr9 : IsTup g' q9.r [.int 0 q9.k1, .ref q9.s, .int 1 q9.k2].toArray := ⟨_, hgg _ _ hr9, rfl, 0, rfl⟩
    replace hs9 : IsTup g' q9.s (.str (Str.ofString q9.w) q9.k3 :: q9.vs).toArray := ⟨_, hgg _ _ hs9, rfl, 0, rfl⟩
    generalize itR ((i : Int) + 1) ((rs.length : Int) - ((i : Int) + 1)) = oI at N5 ⊢
    have hoff0 := hoff
    dsimp only [flowL, flowD] at N5 hoff
    simp only [List.forall_mem_cons] at hoff
    obtain ⟨of1, of2, of3, of4, of5, of6, of7, of8, of9, of10, _⟩ := hoff
    (with_reducible show wpAny _ _ _ _ _ _)
    k_fold
    dsimp only at di2 di3
    k_with "k_lt" => ((rename (∀ p ∈ (_ : List (Addr × Obj)), p.1 < _) => l9); (have l7 := l9); (replace l9 := allLt_of l9; simp only [AllLt, and_true] at l9))
    k_with "k_upd" => (first | (refine' Upd.head ?a; (case a => k_all)) | (refine' Upd.tail ?a ?b; (case a => k_ne); (case b => k_upd)))
    k_with "k_ne" => (first | assumption | exact Ne.symm (by assumption))
    k_with "k_all" => (first | exact List.forall_mem_nil _ | (refine fmc ?a ?b; (case a => k_ne); (case b => k_all)) | exact fun p hp => Nat.ne_of_lt (l7 p hp))
    k_with "setItem ref int int" => (k_dflt (refine' kda_set (knd := PySem.intKind _ _) ?F ?N ?U ?d (intKind_is _ _ _ _) ?z ?_; (case F => k_asm); (case N => k_asm); (case U => k_updF); (case d => k_asm); (case z => rw [sizeLine_eq]; exact Nat.le_of_ble_eq_true (by with_unfolding_all rfl))); intro h' o' F' N' hd'; (try dsimp only at N'))
    k_with "subscriptTail Name Name ref int" => (k_dflt (refine item_list (stays_list (Fr.keep (by k_asm)) h8) (by omega) (by omega) (row_at hq) ?_))
    k_with "subscriptTail Subscript Name Name Constant ref int" => (k_dflt (refine item_tupleT (IsTup.keeps hr9 (by first | exact Fr.keep (by k_asm) | (intro b9 o9 q9; refine Fr.keep (by k_asm) b9 o9 ?_; exact Fr.keep (by k_asm) b9 o9 q9) | (intro b9 o9 q9; refine Fr.keep (by k_asm) b9 o9 ?_; refine Fr.keep (by k_asm) b9 o9 ?_; exact Fr.keep (by k_asm) b9 o9 q9))) (by decide) (by decide) rfl rfl ?_))
    k_with "subscriptTail Name Constant ref int" => (k_dflt (refine tup_item0 (IsTup.keeps hs9 (by first | exact Fr.keep (by k_asm) | (intro b9 o9 q9; refine Fr.keep (by k_asm) b9 o9 ?_; exact Fr.keep (by k_asm) b9 o9 q9) | (intro b9 o9 q9; refine Fr.keep (by k_asm) b9 o9 ?_; refine Fr.keep (by k_asm) b9 o9 ?_; exact Fr.keep (by k_asm) b9 o9 q9))) ?_ (by with_unfolding_all rfl)))
    iterate 42 (first | (k_unfold; (try dsimp only)) | (k_end; wrow_close) | walk1 | (dsimp only; walk1) | (leave1; (try dsimp only)) | fail "no step")
    rcases sh.at_ i q9 hq with ⟨na, nb, hw⟩ | ⟨ia, hw⟩ | ⟨ib, hw⟩
    · have hw1 : (Str.ofString q9.w == Str.ofString "if") = false := by rcases hw with hw | hw <;> rw [hw] <;> decide +kernel
      have hw2 : (Str.ofString q9.w == Str.ofString "do") = false := by rcases hw with hw | hw <;> rw [hw] <;> decide +kernel
      have hw3 : [Str.ofString "elseif", Str.ofString "else", Str.ofString "endif"].any (· == Str.ofString q9.w) = false := by rcases hw with hw | hw <;> rw [hw] <;> decide +kernel
      k_with "compareOp Eq str str" => (first | refine eq_no hw1 ?_ | refine eq_no hw2 ?_)
      k_with "compareOp In str ref" => ((with_reducible show wpAny _ _ (compareOp CmpOp.In (Value.str _ _) (Value.ref _)) _ _ _); (with_unfolding_all refine' in_no ?k1 ?k2 hw3 ?_; (case k1 => exact News.isTup (by k_asm) (by news_mem)); (case k2 => kde_strs)))
      repeat (first | (k_unfold; (try dsimp only)) | (k_end; wrow_close) | walk1 | (dsimp only; walk1) | (leave1; (try dsimp only)) | fail "no step")
      exact fl_end (by k_asm) (by k_asm) (by first | exact fun p hp => hp | exact fun p hp => .tail _ hp | exact fun p hp => .tail _ (.tail _ hp)) hoff0 (funext frF_next) ⟨di1, di2, di3⟩ hd1 hd2 (Phase.plain ph na nb)
    all_goals rw [hw] at hs9
    · obtain ⟨-, ⟨nb, rfl⟩, rfl, rfl⟩ : i ≤ pa ∧ (∃ nb, ob = listOf #[] nb) ∧ kv1 = [] ∧ kv2 = [] := ph.opn ia sh.ab
      have iab := sh.ab
      subst ia
      repeat (first | (k_unfold; (try dsimp only)) | (k_end; wrow_close) | walk1 | (dsimp only; walk1) | (leave1; (try dsimp only)) | fail "no step")
      refine fl_end (by k_asm) (by k_asm) (by exact fmc (.tail _ (.head _)) ((fmc (.head _) ((fmc (.tail _ (.tail _ (.tail _ (.head _)))) ((fmc (.tail _ (.tail _ (.tail _ (.tail _ (.head _))))) ((fmc (.tail _ (.tail _ (.tail _ (.tail _ (.tail _ (.head _)))))) ((fmc (.tail _ (.tail _ (.tail _ (.tail _ (.tail _ (.tail _ (.head _))))))) ((fmc (.tail _ (.tail _ (.tail _ (.tail _ (.tail _ (.tail _ (.tail _ (.head _)))))))) ((fmc (.tail _ (.tail _ (.tail _ (.tail _ (.tail _ (.tail _ (.tail _ (.tail _ (.head _))))))))) ((fmc (.tail _ (.tail _ (.tail _ (.tail _ (.tail _ (.tail _ (.tail _ (.tail _ (.tail _ (.head _)))))))))) ((fmc (.tail _ (.tail _ (.tail _ (.tail _ (.tail _ (.tail _ (.tail _ (.tail _ (.tail _ (.tail _ (.head _))))))))))) ((fmc (.tail _ (.tail _ (.tail _ (.tail _ (.tail _ (.tail _ (.tail _ (.tail _ (.tail _ (.tail _ (.tail _ (.head _)))))))))))) (List.forall_mem_nil _)))))))))))))))))))))) (by repeat' (first | exact List.forall_mem_nil _ | (refine List.forall_mem_cons.mpr (And.intro ?_ ?_)) | (dsimp only; omega))) (funext frF_next) ⟨by omega, by dsimp only; omega, by dsimp only; omega⟩ hd1 hd2 (Or.inr (Or.inl ⟨by omega, by omega, ⟨_, rfl⟩, ⟨_, _, rfl⟩, rfl, rfl⟩))
    · obtain ⟨⟨nb, rfl⟩, ⟨ta, nk, rfl⟩, rfl, rfl⟩ : (∃ nb, ob = listOf #[.ref bk] nb) ∧ (∃ t nk, obk = listOf #[.int pa t] nk) ∧ kv1 = [] ∧ kv2 = [] := ph.cls ib sh.ab
      have iab := sh.ab
      obtain ⟨qa, hqa⟩ : ∃ q, rs[pa]? = some q := ⟨rs[pa], List.getElem?_eq_getElem (by omega)⟩
      obtain ⟨hra, hsa⟩ := hrs qa (List.mem_of_getElem? hqa)
      replace hra : IsTup g' qa.r [.int 0 qa.k1, .ref qa.s, .int 1 qa.k2].toArray := ⟨_, hgg _ _ hra, rfl, 0, rfl⟩
      replace hsa : IsTup g' qa.s (.str (Str.ofString qa.w) qa.k3 :: qa.vs).toArray := ⟨_, hgg _ _ hsa, rfl, 0, rfl⟩
      have hwa : qa.w = "if" := by
        rcases sh.at_ pa qa hqa with ⟨na, _⟩ | ⟨_, h⟩ | ⟨h, _⟩
        · exact absurd rfl na
        · exact h
        · omega
      rw [hwa] at hsa
      subst ib
      k_with "subscriptTail Name Name ref int" => (first | (k_dflt (refine item_list (stays_list (Fr.keep (by k_asm)) h8) (by omega) (by omega) (row_at hq) ?_)) | (k_dflt (refine item_list (stays_list (by first | exact Fr.keep (by k_asm) | (intro b9 o9 q9; refine Fr.keep (by k_asm) b9 o9 ?_; exact Fr.keep (by k_asm) b9 o9 q9) | (intro b9 o9 q9; refine Fr.keep (by k_asm) b9 o9 ?_; refine Fr.keep (by k_asm) b9 o9 ?_; exact Fr.keep (by k_asm) b9 o9 q9)) h8) (by omega) (by omega) (row_at hqa) ?_)))
      k_with "subscriptTail Subscript Name Name Constant ref int" => (first | (k_dflt (refine item_tupleT (IsTup.keeps hr9 (by first | exact Fr.keep (by k_asm) | (intro b9 o9 q9; refine Fr.keep (by k_asm) b9 o9 ?_; exact Fr.keep (by k_asm) b9 o9 q9) | (intro b9 o9 q9; refine Fr.keep (by k_asm) b9 o9 ?_; refine Fr.keep (by k_asm) b9 o9 ?_; exact Fr.keep (by k_asm) b9 o9 q9))) (by decide) (by decide) rfl rfl ?_)) | (k_dflt (refine item_tupleT (IsTup.keeps hra (by first | exact Fr.keep (by k_asm) | (intro b9 o9 q9; refine Fr.keep (by k_asm) b9 o9 ?_; exact Fr.keep (by k_asm) b9 o9 q9) | (intro b9 o9 q9; refine Fr.keep (by k_asm) b9 o9 ?_; refine Fr.keep (by k_asm) b9 o9 ?_; exact Fr.keep (by k_asm) b9 o9 q9))) (by decide) (by decide) rfl rfl ?_)))
      k_with "subscriptTail Name Constant ref int" => (first | (k_dflt (refine tup_item0 (IsTup.keeps hs9 (by first | exact Fr.keep (by k_asm) | (intro b9 o9 q9; refine Fr.keep (by k_asm) b9 o9 ?_; exact Fr.keep (by k_asm) b9 o9 q9) | (intro b9 o9 q9; refine Fr.keep (by k_asm) b9 o9 ?_; refine Fr.keep (by k_asm) b9 o9 ?_; exact Fr.keep (by k_asm) b9 o9 q9))) ?_ (by with_unfolding_all rfl))) | (k_dflt (refine tup_item0 (IsTup.keeps hsa (by first | exact Fr.keep (by k_asm) | (intro b9 o9 q9; refine Fr.keep (by k_asm) b9 o9 ?_; exact Fr.keep (by k_asm) b9 o9 q9) | (intro b9 o9 q9; refine Fr.keep (by k_asm) b9 o9 ?_; refine Fr.keep (by k_asm) b9 o9 ?_; exact Fr.keep (by k_asm) b9 o9 q9))) ?_ (by with_unfolding_all rfl))))
      k_with "subscriptTail Subscript Subscript" => (k_dflt (refine tup_item0 (IsTup.keeps hsa (by first | exact Fr.keep (by k_asm) | (intro b9 o9 q9; refine Fr.keep (by k_asm) b9 o9 ?_; exact Fr.keep (by k_asm) b9 o9 q9) | (intro b9 o9 q9; refine Fr.keep (by k_asm) b9 o9 ?_; refine Fr.keep (by k_asm) b9 o9 ?_; exact Fr.keep (by k_asm) b9 o9 q9))) ?_ (by with_unfolding_all rfl)))
      repeat (first | (k_unfold; (try dsimp only)) | (k_end; wrow_close) | walk1 | (dsimp only; walk1) | (leave1; (try dsimp only)) | fail "no step")
      refine fl_end (by k_asm) (by k_asm) (by exact fmc (.tail _ (.head _)) ((fmc (.tail _ (.tail _ (.head _))) ((fmc (.tail _ (.tail _ (.tail _ (.head _)))) ((fmc (.tail _ (.tail _ (.tail _ (.tail _ (.head _))))) ((fmc (.tail _ (.tail _ (.tail _ (.tail _ (.tail _ (.head _)))))) ((fmc (.tail _ (.tail _ (.tail _ (.tail _ (.tail _ (.tail _ (.head _))))))) ((fmc (.tail _ (.tail _ (.tail _ (.tail _ (.tail _ (.tail _ (.tail _ (.head _)))))))) ((fmc (.tail _ (.tail _ (.tail _ (.tail _ (.tail _ (.tail _ (.tail _ (.tail _ (.head _))))))))) ((fmc (.tail _ (.tail _ (.tail _ (.tail _ (.tail _ (.tail _ (.tail _ (.tail _ (.tail _ (.head _)))))))))) ((fmc (.tail _ (.tail _ (.tail _ (.tail _ (.tail _ (.tail _ (.tail _ (.tail _ (.tail _ (.tail _ (.head _))))))))))) ((fmc (.tail _ (.tail _ (.tail _ (.tail _ (.tail _ (.tail _ (.tail _ (.tail _ (.tail _ (.tail _ (.tail _ (.head _)))))))))))) (List.forall_mem_nil _)))))))))))))))))))))) (by repeat' (first | exact List.forall_mem_nil _ | (refine List.forall_mem_cons.mpr (And.intro ?_ ?_)) | assumption)) (funext frF_next) ⟨di1, di2, di3⟩ (kv1 := stored [] (pa : Int) (.int i t)) (kv2 := stored [] (pa : Int) (.int i _)) (by assumption) (by assumption) (Or.inr (Or.inr ⟨by omega, ⟨_, rfl⟩, t, by simp [stored]⟩))
  · rintro m₁ nx h tk ⟨a?, l?, s?, bk, ob, obk, o1, o2, kv1, kv2, rfl, rfl, ⟨di1, di2, di3⟩, hd1, hd2, ph⟩ F5 N5
    dsimp only [flowL, flowD] at N5
    obtain ⟨nb, rfl⟩ : ∃ nb, ob = listOf #[] nb := ph.shut sh
    (with_reducible show wpAny _ _ _ _ _ _)
    repeat (first | (k_unfold; (try dsimp only)) | (k_end; wrow_close) | walk1 | (dsimp only; walk1) | (leave1; (try dsimp only)) | fail "no step")
    refine fun H => hret _ _ _ _ (H fun _ h => nomatch h) (by k_asm) (fresh_of hgg (by k_asm)) ⟨kv1, ⟨_, _, ⟨_, _, _, _, _, _, _, _, _, _⟩, o1, _, rfl, by k_mem, by k_mem, by k_mem, hd1, by assumption, by k_mem, by assumption, by assumption⟩, fun hb => ph.filled sh hb⟩
-- part L1
theorem fm {x k : Int} (h : 0 ≤ k) : x.fmod k = x % k := Int.fmod_eq_emod_of_nonneg x h
theorem lp1 {y : Int} (a : y.fmod 4 = 0) (b : y.fmod 100 ≠ 0) : (y.fmod 100 != 0) = leap y := by
  rw [fm (by decide)] at a b ⊢
  simp [leap, a, b]
theorem lp2 {y : Int} (a : y.fmod 4 = 0) (b : y.fmod 100 = 0) : (y.fmod 400 == 0) = leap y := by
  rw [fm (by decide)] at a b ⊢
  simp [leap, a, b]
  rfl
theorem lp3 {y : Int} (a : y.fmod 4 ≠ 0) : (y.fmod 4 == 0) = leap y := by
  rw [fm (by decide)] at a ⊢
  simp [leap, a]
set_option maxHeartbeats 8000000 in
theorem leap_ok (w : World) (y : Int) (h0 : 0 ≤ y) (h1 : y < 100000) (s : Shared) {t1 : Tok} :
    Does w 750 3 [.int y t1] s [] (fun _ v => v = .bool (leap y)) := by
  intro loose mean mg mb dp un gd cn cs a ccd cl outer A₀ base h₀ L m Q E C N hd hret
  w_top off
  have X0 := C.X; revert X0; k_fill; intro X0
  (refine wpAny_call ?_; k_dflt (refine' enter _ ?k1 ?k2 ?k3 ?k4 ?k5 ?kA ?kF ?kK ?k6 ?k7 ?k8 ?k9 ?kB ?_ ?c2 ?c3 ?c4 ?c5; (case kA => exact rfl); (case kF => exact rfl); (case kK => exact Cx.k (by assumption)); (case k1 => exact Cx.B (by assumption)); (case k2 => exact Cx.F (by assumption)); (case k3 => exact Cx.X (by assumption)); (case k4 => assumption); (case k5 => exact Cx.T (by assumption)); (case k6 => k_is); (case k7 => k_is); (case k8 => k_room); (case k9 => exact BindsTo.of_eq rfl); (case c5 => decide); (case kB => exact locs rfl); (case c2 => exact rfl); (case c3 => exact rfl); (case c4 => exact rfl); k_whole))
  intro g' L' h' hg FG' F' N' B' X' T'
  clear hg
  (try dsimp only)
  (with_reducible show wpAny _ _ _ _ _ _)
  k_fold
  k_with_none
  k_with "k_room" => (((try simp only [depth_mark, depth_under_make, depth_under_kw, depth_in1, depth_deeper, depth_caller]); (try dsimp only [ktrTop]); (try simp only [recursionLimit]); (first | exact rmk (by assumption) (by exact Nat.le_of_ble_eq_true rfl) | exact rmk1 (by assumption) (by exact Nat.le_of_ble_eq_true rfl) | exact rmk2 (by assumption) (by exact Nat.le_of_ble_eq_true rfl) | exact rmk3 (by assumption) (by exact Nat.le_of_ble_eq_true rfl) | exact rmk4 (by assumption) (by exact Nat.le_of_ble_eq_true rfl) | exact rmk0 (by assumption) | omega)))
  k_with "k_mem" => ((change (_ ∈ (_ : List (Addr × Obj))); ktr_member))
  k_with "k_mem" => (((change (_ ∈ ((_ ++ _) : List (Addr × Obj)))); first | (refine List.mem_append.mpr (Or.inl ?_); k_mem) | (refine List.mem_append.mpr (Or.inr ?_); k_mem)))
  k_with "binaryOp LShift int int" => (((refine lshift_int_small (by decide) (by decide) (by decide) ?_); rw [show ((1:Int) * 2 ^ ((32:Int) - 1).toNat) = 2147483648 from rfl]))
  k_with "storeName" => (k_dflt (refine' storeX_any ?F ?N ?_ ?a ?b; (case F => k_asm); (case N => k_asm); (case a => rfl); (case b => rfl); k_whole); intro h' tk' F' N'; (try k_sweep))
  k_with "eval Call Name cons nil" => (refine Call_ ?_)
  k_with "eval Call Attribute cons nil" => (refine MethodCall_ ?_)
  k_with "spliced" => (first | ((with_reducible show wpAny _ _ (spliced (backTo _ (starEach (PySem.Expr.Name _ _ :: _) _))) _ _ _); k_dflt (refine' args_loc ?F ?v ?a ?b ?c ?_; (case F => k_asm); (case a => rfl); (case b => rfl); (case v => rfl); (case c => decide))) | ((with_reducible show wpAny _ _ (spliced (backTo _ (starEach (PySem.Expr.Constant (Const.int _) _ _ :: _) _))) _ _ _); refine args_int ?_) | ((with_reducible show wpAny _ _ (spliced (backTo _ (starEach (PySem.Expr.Constant (Const.str _) _ _ :: _) _))) _ _ _); refine args_str ?_))
  k_with "eval Attribute Name" => (k_dflt (refine' attr_loc ?F ?v ?a ?b ?c ?_; (case F => k_asm); (case a => rfl); (case b => rfl); (case v => rfl); (case c => decide)))
  k_with "eval Subscript" => (first | ((with_reducible show wpAny _ _ (eval (PySem.Expr.Subscript (PySem.Expr.Name _ _) (PySem.Expr.Constant (Const.int _) _ _) _) _) _ _ _); k_dflt (refine' sub_loc_int ?F ?v ?a ?b ?c ?_; (case F => k_asm); (case a => rfl); (case b => rfl); (case v => rfl); (case c => decide))) | ((with_reducible show wpAny _ _ (eval (PySem.Expr.Subscript (PySem.Expr.Name _ _) _ _) _) _ _ _); k_dflt (refine' sub_loc ?F ?v ?a ?b ?c ?_; (case F => k_asm); (case a => rfl); (case b => rfl); (case v => rfl); (case c => decide))))
  repeat (first | (k_unfold; (try dsimp only)) | (k_end; wrow_close) | walk1 | (dsimp only; walk1) | (leave1; (try dsimp only)) | fail "no step")
  refine fun H => hret _ _ _ (H fun q hq => (nomatch hq)) (congrArg Value.bool ?_)
  first | exact lp1 (by assumption) (by assumption) | exact lp2 (by assumption) (by assumption) | exact lp3 (by assumption)
  repeat (first | (k_unfold; (try dsimp only)) | (k_end; wrow_close) | walk1 | (dsimp only; walk1) | (leave1; (try dsimp only)) | fail "no step")
  refine fun H => hret _ _ _ (H fun q hq => (nomatch hq)) (congrArg Value.bool ?_)
  first | exact lp1 (by assumption) (by assumption) | exact lp2 (by assumption) (by assumption) | exact lp3 (by assumption)
  repeat (first | (k_unfold; (try dsimp only)) | (k_end; wrow_close) | walk1 | (dsimp only; walk1) | (leave1; (try dsimp only)) | fail "no step")
  refine fun H => hret _ _ _ (H fun q hq => (nomatch hq)) (congrArg Value.bool ?_)
  first | exact lp1 (by assumption) (by assumption) | exact lp2 (by assumption) (by assumption) | exact lp3 (by assumption)
-- part L2
noncomputable def Next (Y M D Y' M' D' : Int) : Prop := (D < len M (leap Y) ∧ Y' = Y ∧ M' = M ∧ D' = D + 1) ∨ (¬ D < len M (leap Y) ∧ M < 12 ∧ Y' = Y ∧ M' = M + 1 ∧ D' = 1) ∨ (¬ D < len M (leap Y) ∧ M = 12 ∧ Y' = Y + 1 ∧ M' = 1 ∧ D' = 1)
noncomputable abbrev lenAt (M : Int) : Int := [(31 : Int), 28, 31, 30, 31, 30, 31, 31, 30, 31, 30, 31].getD (M - 1).toNat 0
theorem len_two {M : Int} (l : Bool) (h : M = 2) : lenAt M + (if l = true then 1 else 0) = len M l := by
  subst h
  cases l <;> rfl
theorem len_all : ∀ j < 12, ∀ l : Bool, j = 1 ∨ lenAt ((j : Nat) + 1 : Int) = len ((j : Nat) + 1 : Int) l := by decide +kernel
theorem len_other {M : Int} (l : Bool) (h1 : 1 ≤ M) (h2 : M ≤ 12) (h : M ≠ 2) : lenAt M = len M l := by
  obtain ⟨j, e, hj⟩ := mon M h1 (n := 12) h2
  subst e
  rcases len_all j hj l with q | q
  · subst q; exact absurd rfl h
  · exact q
theorem nx1 {Y M D : Int} (a : M = 2) (h : D < lenAt M + (if leap Y = true then 1 else 0)) : Next Y M D Y M (D + 1) :=
  Or.inl ⟨by rw [← len_two _ a]; exact h, rfl, rfl, rfl⟩
theorem nx2 {Y M D : Int} (a : M = 2) (h : ¬ D < lenAt M + (if leap Y = true then 1 else 0)) : Next Y M D Y (M + 1) 1 :=
  Or.inr (Or.inl ⟨by rw [← len_two _ a]; exact h, by rw [a]; decide, rfl, rfl, rfl⟩)
theorem nx0 {Y M D : Int} (h0 : 1 ≤ M) (h1 : M ≤ 12) (a : M ≠ 2) : (D < lenAt M + (if (M == 2) = true then 1 else 0)) = (D < len M (leap Y)) := by
  rw [if_neg (by simpa using a), Int.add_zero, len_other (leap Y) h0 h1 a]
theorem nx3 {Y M D : Int} (h0 : 1 ≤ M) (h1 : M ≤ 12) (a : M ≠ 2) (h : D < lenAt M + (if (M == 2) = true then 1 else 0)) : Next Y M D Y M (D + 1) :=
  Or.inl ⟨by rw [← nx0 h0 h1 a]; exact h, rfl, rfl, rfl⟩
theorem nx4 {Y M D : Int} (h0 : 1 ≤ M) (h1 : M ≤ 12) (a : M ≠ 2) (h : ¬ D < lenAt M + (if (M == 2) = true then 1 else 0)) (b : M < 12) : Next Y M D Y (M + 1) 1 :=
  Or.inr (Or.inl ⟨by rw [← nx0 h0 h1 a]; exact h, b, rfl, rfl, rfl⟩)
theorem nx5 {Y M D : Int} (h0 : 1 ≤ M) (h1 : M ≤ 12) (a : M ≠ 2) (h : ¬ D < lenAt M + (if (M == 2) = true then 1 else 0)) (b : ¬ M < 12) : Next Y M D (Y + 1) 1 1 :=
  Or.inr (Or.inr ⟨by rw [← nx0 h0 h1 a]; exact h, Int.le_antisymm h1 (Int.not_lt.mp b), rfl, rfl, rfl⟩)
set_option maxHeartbeats 8000000 in
theorem behind_ok (w : World) (s : Shared) {date : Addr} {Y M D : Int} {d1 d2 d3 : Tok} (h0 : 1 ≤ Y) (h1 : Y < 100000) (hm0 : 1 ≤ M) (hm1 : M ≤ 12) (hd0 : 1 ≤ D) (hd1 : D ≤ 31) :
    MakesL w 757 8 [.ref date] s [(date, tup [.int Y d1, .int M d2, .int D d3])] (fun tl v => ∃ (q : Addr) (Y' M' D' : Int) (e1 e2 e3 : Tok), v = .ref q ∧ (q, tup [.int Y' e1, .int M' e2, .int D' e3]) ∈ tl ∧ Next Y M D Y' M' D') := by
  intro loose mean mg mb dp un gd cn cs a ccd cl outer A₀ base h₀ L m Q E C N hd hret
  w_top off
  have X0 := C.X; revert X0; k_fill; intro X0
  (refine wpAny_call ?_; k_dflt (refine' enter _ ?k1 ?k2 ?k3 ?k4 ?k5 ?kA ?kF ?kK ?k6 ?k7 ?k8 ?k9 ?kB ?_ ?c2 ?c3 ?c4 ?c5; (case kA => exact rfl); (case kF => exact rfl); (case kK => exact Cx.k (by assumption)); (case k1 => exact Cx.B (by assumption)); (case k2 => exact Cx.F (by assumption)); (case k3 => exact Cx.X (by assumption)); (case k4 => assumption); (case k5 => exact Cx.T (by assumption)); (case k6 => k_is); (case k7 => k_is); (case k8 => k_room); (case k9 => exact BindsTo.of_eq rfl); (case c5 => decide); (case kB => exact locs rfl); (case c2 => exact rfl); (case c3 => exact rfl); (case c4 => exact rfl); k_whole))
  intro g' L' h' hg FG' F' N' B' X' T'
  have hK := keepAll hg N
  clear hg N
  (try dsimp only)
  (with_reducible show wpAny _ _ _ _ _ _)
  k_fold
  k_with_none
  k_with "k_room" => (((try simp only [depth_mark, depth_under_make, depth_under_kw, depth_in1, depth_deeper, depth_caller]); (try dsimp only [ktrTop]); (try simp only [recursionLimit]); (first | exact rmk (by assumption) (by exact Nat.le_of_ble_eq_true rfl) | exact rmk1 (by assumption) (by exact Nat.le_of_ble_eq_true rfl) | exact rmk2 (by assumption) (by exact Nat.le_of_ble_eq_true rfl) | exact rmk3 (by assumption) (by exact Nat.le_of_ble_eq_true rfl) | exact rmk4 (by assumption) (by exact Nat.le_of_ble_eq_true rfl) | exact rmk0 (by assumption) | omega)))
  k_with "k_mem" => ((change (_ ∈ (_ : List (Addr × Obj))); ktr_member))
  k_with "k_mem" => (((change (_ ∈ ((_ ++ _) : List (Addr × Obj)))); first | (refine List.mem_append.mpr (Or.inl ?_); k_mem) | (refine List.mem_append.mpr (Or.inr ?_); k_mem)))
  k_with "binaryOp LShift int int" => (((refine lshift_int_small (by decide) (by decide) (by decide) ?_); rw [show ((1:Int) * 2 ^ ((32:Int) - 1).toNat) = 2147483648 from rfl]))
  k_with "storeName" => (k_dflt (refine' storeX_any ?F ?N ?_ ?a ?b; (case F => k_asm); (case N => k_asm); (case a => rfl); (case b => rfl); k_whole); intro h' tk' F' N'; (try k_sweep))
  k_with "eval Call Name cons nil" => (refine Call_ ?_)
  k_with "eval Call Attribute cons nil" => (refine MethodCall_ ?_)
  k_with "spliced" => (first | ((with_reducible show wpAny _ _ (spliced (backTo _ (starEach (PySem.Expr.Name _ _ :: _) _))) _ _ _); k_dflt (refine' args_loc ?F ?v ?a ?b ?c ?_; (case F => k_asm); (case a => rfl); (case b => rfl); (case v => rfl); (case c => decide))) | ((with_reducible show wpAny _ _ (spliced (backTo _ (starEach (PySem.Expr.Constant (Const.int _) _ _ :: _) _))) _ _ _); refine args_int ?_) | ((with_reducible show wpAny _ _ (spliced (backTo _ (starEach (PySem.Expr.Constant (Const.str _) _ _ :: _) _))) _ _ _); refine args_str ?_))
  k_with "eval Attribute Name" => (k_dflt (refine' attr_loc ?F ?v ?a ?b ?c ?_; (case F => k_asm); (case a => rfl); (case b => rfl); (case v => rfl); (case c => decide)))
  k_with "eval Subscript" => (first | ((with_reducible show wpAny _ _ (eval (PySem.Expr.Subscript (PySem.Expr.Name _ _) (PySem.Expr.Constant (Const.int _) _ _) _) _) _ _ _); k_dflt (refine' sub_loc_int ?F ?v ?a ?b ?c ?_; (case F => k_asm); (case a => rfl); (case b => rfl); (case v => rfl); (case c => decide))) | ((with_reducible show wpAny _ _ (eval (PySem.Expr.Subscript (PySem.Expr.Name _ _) _ _) _) _ _ _); k_dflt (refine' sub_loc ?F ?v ?a ?b ?c ?_; (case F => k_asm); (case a => rfl); (case b => rfl); (case v => rfl); (case c => decide))))
  k_with "call ref cons nil" => ((with_reducible show wpAny _ _ (call (Value.ref 750) _) _ _ _); k_dflt (refine' Does.use ?wB ?wF ?wX ?wT ?wk ?wN (leap_ok w _ ?h0 ?h1 _) (fun _ hq => nomatch hq) ?whd ?_; (case wB => k_asm); (case wF => k_asm); (case wX => k_asm); (case wT => k_asm); (case wk => exact rfl); (case wN => k_asm); (case h0 => omega); (case h1 => omega); (case whd => ((try simp only [depth_mark, depth_deeper]); (try dsimp only [ktrTop]); (first | exact rmk (by assumption) (by exact Nat.le_of_ble_eq_true rfl) | exact rmk1 (by assumption) (by exact Nat.le_of_ble_eq_true rfl) | exact rmk2 (by assumption) (by exact Nat.le_of_ble_eq_true rfl) | exact rmk3 (by assumption) (by exact Nat.le_of_ble_eq_true rfl) | exact rmk4 (by assumption) (by exact Nat.le_of_ble_eq_true rfl) | exact rmk0 (by assumption) | omega)))); intro v9 h9' tk9 F9 N9 kp9 e9; subst e9)
  repeat (first | (k_unfold; (try dsimp only)) | (k_end; wrow_close) | walk1 | (dsimp only; walk1) | (leave1; (try dsimp only)) | fail "no step")
  refine fun H => hret _ _ _ _ (H fun q hq => ((by k_asm : News h₀ L _ _) q (by first | exact hq | exact .tail _ hq | exact .tail _ (.tail _ hq))).1) (by k_asm) ⟨_, _, _, _, _, _, _, rfl, by k_mem, ?_⟩
  first | exact nx1 (by assumption) (by assumption) | exact nx2 (by assumption) (by assumption) | exact nx3 hm0 hm1 (by assumption) (by assumption) | exact nx4 hm0 hm1 (by assumption) (by assumption) (by assumption) | exact nx5 hm0 hm1 (by assumption) (by assumption) (by assumption)
  repeat (first | (k_unfold; (try dsimp only)) | (k_end; wrow_close) | walk1 | (dsimp only; walk1) | (leave1; (try dsimp only)) | fail "no step")
  refine fun H => hret _ _ _ _ (H fun q hq => ((by k_asm : News h₀ L _ _) q (by first | exact hq | exact .tail _ hq | exact .tail _ (.tail _ hq))).1) (by k_asm) ⟨_, _, _, _, _, _, _, rfl, by k_mem, ?_⟩
  first | exact nx1 (by assumption) (by assumption) | exact nx2 (by assumption) (by assumption) | exact nx3 hm0 hm1 (by assumption) (by assumption) | exact nx4 hm0 hm1 (by assumption) (by assumption) (by assumption) | exact nx5 hm0 hm1 (by assumption) (by assumption) (by assumption)
  repeat (first | (k_unfold; (try dsimp only)) | (k_end; wrow_close) | walk1 | (dsimp only; walk1) | (leave1; (try dsimp only)) | fail "no step")
  refine fun H => hret _ _ _ _ (H fun q hq => ((by k_asm : News h₀ L _ _) q (by first | exact hq | exact .tail _ hq | exact .tail _ (.tail _ hq))).1) (by k_asm) ⟨_, _, _, _, _, _, _, rfl, by k_mem, ?_⟩
  first | exact nx1 (by assumption) (by assumption) | exact nx2 (by assumption) (by assumption) | exact nx3 hm0 hm1 (by assumption) (by assumption) | exact nx4 hm0 hm1 (by assumption) (by assumption) (by assumption) | exact nx5 hm0 hm1 (by assumption) (by assumption) (by assumption)
  repeat (first | (k_unfold; (try dsimp only)) | (k_end; wrow_close) | walk1 | (dsimp only; walk1) | (leave1; (try dsimp only)) | fail "no step")
  refine fun H => hret _ _ _ _ (H fun q hq => ((by k_asm : News h₀ L _ _) q (by first | exact hq | exact .tail _ hq | exact .tail _ (.tail _ hq))).1) (by k_asm) ⟨_, _, _, _, _, _, _, rfl, by k_mem, ?_⟩
  first | exact nx1 (by assumption) (by assumption) | exact nx2 (by assumption) (by assumption) | exact nx3 hm0 hm1 (by assumption) (by assumption) | exact nx4 hm0 hm1 (by assumption) (by assumption) (by assumption) | exact nx5 hm0 hm1 (by assumption) (by assumption) (by assumption)
  repeat (first | (k_unfold; (try dsimp only)) | (k_end; wrow_close) | walk1 | (dsimp only; walk1) | (leave1; (try dsimp only)) | fail "no step")
  refine fun H => hret _ _ _ _ (H fun q hq => ((by k_asm : News h₀ L _ _) q (by first | exact hq | exact .tail _ hq | exact .tail _ (.tail _ hq))).1) (by k_asm) ⟨_, _, _, _, _, _, _, rfl, by k_mem, ?_⟩
  first | exact nx1 (by assumption) (by assumption) | exact nx2 (by assumption) (by assumption) | exact nx3 hm0 hm1 (by assumption) (by assumption) | exact nx4 hm0 hm1 (by assumption) (by assumption) (by assumption) | exact nx5 hm0 hm1 (by assumption) (by assumption) (by assumption)
theorem rows_T2 : True := by
  k_with_none
  k_with "k_room" => (((try simp only [depth_mark, depth_under_make, depth_under_kw, depth_in1, depth_deeper, depth_caller]); (try dsimp only [ktrTop]); (try simp only [recursionLimit]); (first | exact rmk (by assumption) (by exact Nat.le_of_ble_eq_true rfl) | exact rmk1 (by assumption) (by exact Nat.le_of_ble_eq_true rfl) | exact rmk2 (by assumption) (by exact Nat.le_of_ble_eq_true rfl) | exact rmk3 (by assumption) (by exact Nat.le_of_ble_eq_true rfl) | exact rmk4 (by assumption) (by exact Nat.le_of_ble_eq_true rfl) | exact rmk0 (by assumption) | omega)))
  k_with "k_mem" => ((change (_ ∈ (_ : List (Addr × Obj))); ktr_member))
  k_with "k_mem" => (((change (_ ∈ ((_ ++ _) : List (Addr × Obj)))); first | (refine List.mem_append.mpr (Or.inl ?_); k_mem) | (refine List.mem_append.mpr (Or.inr ?_); k_mem)))
  k_with "binaryOp LShift int int" => (((refine lshift_int_small (by decide) (by decide) (by decide) ?_); rw [show ((1:Int) * 2 ^ ((32:Int) - 1).toNat) = 2147483648 from rfl]))
  k_with "tb_start" => (first | exact UpdN.head | (refine' UpdN.tail ?b; (case b => tb_start)))
  k_with "tb_rel" => (first | exact trivial | exact List.forall_mem_nil _ | (refine fmc (?a) (?b); (case a => first | (refine Or.inl ?_; k_cls) | (refine Or.inr ?_; assumption)); (case b => tb_rel)) | (refine And.intro ?a ?b; (case a => first | (refine Or.inl ?_; k_cls) | (refine Or.inr ?_; assumption)); (case b => tb_rel)))
  k_with "k_upd" => ((refine' UpdN.updS ?u9 ?n9 ?c9; (case u9 => tb_start); (case n9 => k_asm); (case c9 => tb_rel)))
  trivial
-- part T2
set_option maxHeartbeats 8000000 in
theorem step_ok (w : World) (e : St) (r : Rw) (u : Mv) (ok : Rok w r) (sep : Sep r) (h0 : 0 ≤ u.st) (h1 : u.st < 1000) (s : Shared) :
    Works w 505 6 [.ref r.run] s e r u [] (fun e' u' _ => e = e' ∧ ∃ t, { u with st := u.st + 1, tst := t } = u') := by
  intro loose mean mg mb dp un gd cn cs a ccd cl outer A₀ base h₀ L m Q E C N hd hret
  obtain ⟨sp1, sp2, sp3, sp4, sp5, sp6, sp7, sp8⟩ := sep
  have ⟨oke, okel, oko, okol, okf, okfl⟩ := ok
  rw [lit_u] at N
  dsimp only [litU, List.nil_append] at N
  w_top off
  have X0 := C.X; revert X0; k_fill; intro X0
  (refine wpAny_call ?_; k_dflt (refine' enterT _ ?k1 ?k2 ?k3 ?k4 ?k5 ?kA ?kF ?kK ?k6 ?k7 ?k8 ?k9 ?kB ?_ ?c2 ?c3 ?c4 ?c5; (case kA => exact rfl); (case kF => exact rfl); (case kK => exact Cx.k (by assumption)); (case k1 => exact Cx.B (by assumption)); (case k2 => exact Cx.F (by assumption)); (case k3 => exact Cx.X (by assumption)); (case k4 => exact N); (case k5 => exact Cx.T (by assumption)); (case k6 => k_is); (case k7 => k_is); (case k8 => k_room); (case k9 => exact BindsTo.of_eq rfl); (case c5 => decide); (case kB => exact locs rfl); (case c2 => exact rfl); (case c3 => exact rfl); (case c4 => exact rfl); k_whole))
  intro g' L' h' hg FG' F' N' B' X' T'
  (try dsimp only)
  (with_reducible show wpAny _ _ _ _ _ _)
  k_fold
  k_with_none
  k_with "k_room" => (((try simp only [depth_mark, depth_under_make, depth_under_kw, depth_in1, depth_deeper, depth_caller]); (try dsimp only [ktrTop]); (try simp only [recursionLimit]); (first | exact rmk (by assumption) (by exact Nat.le_of_ble_eq_true rfl) | exact rmk1 (by assumption) (by exact Nat.le_of_ble_eq_true rfl) | exact rmk2 (by assumption) (by exact Nat.le_of_ble_eq_true rfl) | exact rmk3 (by assumption) (by exact Nat.le_of_ble_eq_true rfl) | exact rmk4 (by assumption) (by exact Nat.le_of_ble_eq_true rfl) | exact rmk0 (by assumption) | omega)))
  k_with "k_mem" => ((change (_ ∈ (_ : List (Addr × Obj))); ktr_member))
  k_with "k_mem" => (((change (_ ∈ ((_ ++ _) : List (Addr × Obj)))); first | (refine List.mem_append.mpr (Or.inl ?_); k_mem) | (refine List.mem_append.mpr (Or.inr ?_); k_mem)))
  k_with "binaryOp LShift int int" => (((refine lshift_int_small (by decide) (by decide) (by decide) ?_); rw [show ((1:Int) * 2 ^ ((32:Int) - 1).toNat) = 2147483648 from rfl]))
  k_with "tb_start" => (first | exact UpdN.head | (refine' UpdN.tail ?b; (case b => tb_start)))
  k_with "tb_rel" => (first | exact trivial | exact List.forall_mem_nil _ | (refine fmc (?a) (?b); (case a => first | (refine Or.inl ?_; k_cls) | (refine Or.inr ?_; assumption)); (case b => tb_rel)) | (refine And.intro ?a ?b; (case a => first | (refine Or.inl ?_; k_cls) | (refine Or.inr ?_; assumption)); (case b => tb_rel)))
  k_with "k_upd" => ((refine' UpdN.updS ?u9 ?n9 ?c9; (case u9 => tb_start); (case n9 => k_asm); (case c9 => tb_rel)))
  k_with "storeName" => (k_dflt (refine' storeX_any ?F ?N ?_ ?a ?b; (case F => k_asm); (case N => k_asm); (case a => rfl); (case b => rfl); k_whole); intro h' tk' F' N'; (try k_sweep))
  k_with "eval Call Name cons nil" => (refine Call_ ?_)
  k_with "eval Call Attribute cons nil" => (refine MethodCall_ ?_)
  k_with "spliced" => (first | ((with_reducible show wpAny _ _ (spliced (backTo _ (starEach (PySem.Expr.Name _ _ :: _) _))) _ _ _); k_dflt (refine' args_loc ?F ?v ?a ?b ?c ?_; (case F => k_asm); (case a => rfl); (case b => rfl); (case v => rfl); (case c => decide))) | ((with_reducible show wpAny _ _ (spliced (backTo _ (starEach (PySem.Expr.Constant (Const.int _) _ _ :: _) _))) _ _ _); refine args_int ?_) | ((with_reducible show wpAny _ _ (spliced (backTo _ (starEach (PySem.Expr.Constant (Const.str _) _ _ :: _) _))) _ _ _); refine args_str ?_))
  k_with "eval Attribute Name" => (k_dflt (refine' attr_loc ?F ?v ?a ?b ?c ?_; (case F => k_asm); (case a => rfl); (case b => rfl); (case v => rfl); (case c => decide)))
  k_with "eval Subscript" => (first | ((with_reducible show wpAny _ _ (eval (PySem.Expr.Subscript (PySem.Expr.Name _ _) (PySem.Expr.Constant (Const.int _) _ _) _) _) _ _ _); k_dflt (refine' sub_loc_int ?F ?v ?a ?b ?c ?_; (case F => k_asm); (case a => rfl); (case b => rfl); (case v => rfl); (case c => decide))) | ((with_reducible show wpAny _ _ (eval (PySem.Expr.Subscript (PySem.Expr.Name _ _) _ _) _) _ _ _); k_dflt (refine' sub_loc ?F ?v ?a ?b ?c ?_; (case F => k_asm); (case a => rfl); (case b => rfl); (case v => rfl); (case c => decide))))
  repeat (first | (k_unfold; (try dsimp only)) | (k_end; wrow_close) | walk1 | (dsimp only; walk1) | (leave1; (try dsimp only)) | fail "no step")
  refine fun H => ?_
  (with_reducible rename News h₀ L _ _ => N8)
  refine' hret _ _ _ (e) ({ u with st := u.st + 1, tst := ?tk }) (keep_but N N8 H ?h9) (news_sub N8 ?n9) ⟨rfl, _, rfl⟩
  case n9 => (rw [lit_u]; dsimp only [litU]; repeat' (first | exact List.forall_mem_nil _ | (refine List.forall_mem_cons.mpr (And.intro ?_ ?_)) | k_mem))
  case h9 => (repeat' (first | exact List.forall_mem_nil _ | (refine List.forall_mem_cons.mpr (And.intro ?_ ?_)) | exact Or.inl rfl | exact Or.inr (Or.inl rfl) | exact Or.inr (Or.inr (by k_mem))))
-- part T10
/-- the first n of these differ from all that stand behind them -/
noncomputable def NeN : Nat → List Addr → Prop
  | 0, _ => True
  | _ + 1, [] => True
  | n + 1, a :: r => (∀ b ∈ r, @Ne Nat a b) ∧ NeN n r
theorem desc_ne : ∀ {n : Nat} {l : List Addr}, DescN n l → NeN n l
  | 0, _, _ => trivial
  | _ + 1, [], _ => trivial
  | _ + 1, _ :: _, h => ⟨fun b hb => Nat.ne_of_gt (h.1 b hb), desc_ne h.2⟩
theorem ne_app {pe : Addr} : ∀ {n : Nat} {l : List Addr}, n ≤ l.length → NeN n l → (∀ b ∈ l, @Ne Nat b pe) → NeN n (l ++ [pe])
  | 0, _, _, _, _ => trivial
  | n + 1, [], h, _, _ => absurd h (Nat.not_succ_le_zero n)
  | _ + 1, a :: r, h, hN, hp => ⟨fun b hb => by
      rcases List.mem_append.mp hb with hb | hb
      · exact hN.1 b hb
      · rw [List.mem_singleton.mp hb]; exact hp a (.head _), ne_app (Nat.le_of_succ_le_succ h) hN.2 fun b hb => hp b (.tail _ hb)⟩
theorem UpdN.upd2 {d : Addr} {o o' : Obj} {k : Nat} {l l' : List (Addr × Obj)} (h : UpdN d o o' k l l') : ∀ {m n : Nat}, DescN m (l.map (·.1)) → NeN n ((l.map (·.1)).drop m) → k < m + n → Upd d o o' l l' := by
  induction h with
  | head =>
    intro m n hD hN hk
    cases m with
    | zero =>
      obtain ⟨n, rfl⟩ : ∃ q, n = q + 1 := ⟨n - 1, by omega⟩
      exact .head fun p hp => Ne.symm (hN.1 _ (List.mem_map_of_mem hp))
    | succ m => exact .head fun p hp => Nat.ne_of_lt (hD.1 _ (List.mem_map_of_mem hp))
  | tail h ih =>
    intro m n hD hN hk
    cases m with
    | zero =>
      obtain ⟨n, rfl⟩ : ∃ q, n = q + 1 := ⟨n - 1, by omega⟩
      exact .tail (hN.1 _ h.mem) (ih (m := 0) trivial hN.2 (by omega))
    | succ m => exact .tail (Nat.ne_of_gt (hD.1 _ h.mem)) (ih hD.2 hN (by omega))
theorem upd_method {w : World} {A : Around} {E : Value → Shared → Prop} {s : Shared} {h₀ : Heap} {L d : Addr} {news : List (Addr × Obj)} {o : Obj} {kvs : List (Str × Value)} {pl : Sem Bool} {Q : Value × List Value → Shared → Prop} (N : News h₀ L s.heap news) (hp : (d, o) ∈ news) (hd : o.IsDictOf (PySem.strKind PySem.Challenge.rw_zu0017_01.row.prog w) kvs)
    (h : Q (.builtin "dict.update", [.ref d]) s) : wpAny (model PySem.Challenge.rw_zu0017_01.row.prog w) A (getMethod (.ref d) "update" pl) Q E s :=
  have hD := kda_dict N hp hd
  getMethod_builtin hD.typeIs PySem.F.plainAttrs_dict PySem.F.slot_dict_update PySem.F.type_dict_update hD.mapOf.noDict h
theorem tup_led {prog : Program} {w : World} {A : Around} {E : Value → Shared → Prop} {s : Shared} {h₀ : Heap} {L t : Addr} {news : List (Addr × Obj)} {l : List Value} {value slice : PySem.Expr} {k : Int} {u : Tok} {j : Nat} {x : Value} {Q : Value → Shared → Prop} (N : News h₀ L s.heap news) (hm : (t, tup l) ∈ news)
    (hlo : -(2 ^ 63) ≤ k) (hhi : k < 2 ^ 63) (hj : seqIndex? k l.length = some j) (hx : l[j]? = some x) (h : Q x s)
    (hs : subscripted slice false (.ref t) (.int k u) = operate [.ref t, .int k u] (getItem (.ref t) (.int k u))) :
    wpAny (model prog w) A (subscriptTail value slice (.ref t) (.int k u)) Q E s :=
  item_tupleT ⟨_, (N _ hm).1, rfl, 0, rfl⟩ hlo hhi hj hx h hs
inductive UpdFN (d : Addr) (o : Obj) : Nat → List (Addr × Obj) → (Obj → List (Addr × Obj)) → Prop
  | head {r} : UpdFN d o 0 ((d, o) :: r) (fun o' => (d, o') :: r)
  | tail {k p r g} : UpdFN d o k r g → UpdFN d o (k + 1) (p :: r) (fun o' => p :: g o')
theorem UpdFN.mem {d : Addr} {o : Obj} {k : Nat} {l : List (Addr × Obj)} {g : Obj → List (Addr × Obj)} (h : UpdFN d o k l g) : d ∈ l.map (·.1) := by
  induction h with
  | head => exact .head _
  | tail _ ih => exact .tail _ ih
theorem UpdFN.toF {d : Addr} {o : Obj} {k : Nat} {l : List (Addr × Obj)} {g : Obj → List (Addr × Obj)} (h : UpdFN d o k l g) : ∀ {n : Nat}, DescN n (l.map (·.1)) → k < n → UpdF d o l g := by
  induction h with
  | head =>
    intro n hD hk
    obtain ⟨n, rfl⟩ : ∃ m, n = m + 1 := ⟨n - 1, by omega⟩
    exact .head fun p hp => Nat.ne_of_lt (hD.1 _ (List.mem_map_of_mem hp))
  | tail h ih =>
    intro n hD hk
    obtain ⟨n, rfl⟩ : ∃ m, n = m + 1 := ⟨n - 1, by omega⟩
    exact .tail (Nat.ne_of_gt (hD.1 _ h.mem)) (ih hD.2 (by omega))
theorem ne_of_map {d : Addr} {news : List (Addr × Obj)} (h : ∀ q ∈ news, q.1 ≠ d) : ∀ b ∈ news.map (·.1), @Ne Nat b d := fun b hb => by
  obtain ⟨q, hq, rfl⟩ := List.mem_map.mp hb
  exact h q hq
theorem rot {h₀ h : Heap} {L : Addr} {p : Addr × Obj} {l : List (Addr × Obj)} (N : News h₀ L h (p :: l)) : News h₀ L h (l ++ [p]) := fun q hq => by
  rcases List.mem_append.mp hq with hq | hq
  · exact N q (.tail _ hq)
  · rcases List.mem_singleton.mp hq with rfl; exact N _ (.head _)
theorem desc_zero {h₀ h : Heap} {L : Addr} {l : List (Addr × Obj)} (_N : News h₀ L h l) : DescN 0 (l.map (·.1)) := trivial
-- part T10b
theorem fresh_in {h g h' : Heap} {L : Addr} {lt tl : List (Addr × Obj)} (hg : ∀ b o, h.get? b = some o → b ∉ lt.map (·.1) → g.get? b = some o) (N : News g L h' tl) {p : Addr × Obj} (hp : p ∈ tl) (hn : p.1 ∉ lt.map (·.1)) : h.get? p.1 = none := by
  cases e : h.get? p.1 with
  | none => rfl
  | some o => have := hg _ _ e hn; rw [(N p hp).2.2] at this; cases this
theorem setL_set {v : Value} : ∀ (its : List Value) (j : Nat), j < its.length → ki_setL its j v = some (its.set j v)
  | [], _, h => absurd h (Nat.not_lt_zero _)
  | _ :: _, 0, _ => rfl
  | a :: r, j + 1, h => by
    unfold ki_setL
    rw [setL_set r j (Nat.lt_of_succ_lt_succ h)]
    rfl
theorem list_set {prog : Program} {w : World} {A : Around} {E : Value → Shared → Prop} {s : Shared} {h₀ : Heap} {L D : Addr} {m : Str → Option Value} {news news' : List (Addr × Obj)} {its : List Value} {n : Nat} {k : Int} {t : Tok} {v : Value} {Q : Unit → Shared → Prop} (F : Fr h₀ L s.heap m) (N : News h₀ L s.heap news)
    (h0 : 0 ≤ k) (h1 : k < its.length) (hfit : k < 2 ^ 63) (U : Upd D (lstN its n) (lstN (its.set k.toNat v) n) news news') (h : ∀ h', Fr h₀ L h' m → News h₀ L h' news' → Q () { s with heap := h' }) : wpAny (model prog w) A (setItem (.ref D) (.int k t) v) Q E s :=
  ki_set (its := its.toArray) (q := its.set k.toNat v) F N h0 hfit (setL_set its _ (by omega)) U h
-- part T10c
set_option maxHeartbeats 8000000 in
theorem mstore_ok (w : World) (s : Shared) {mem dm nums pl : Addr} {its : List Value} {nn : Nat} {k v : Int} {cha pu : Value} {kn kc t1 t2 t3 tv : Tok} (hk : 0 ≤ k) (hk2 : k < 6) (hlen : its.length = 6)
    (loose : List Str) (mean : ExcName → Option Value) (mg mb : Str → Option Value) (dp un : Nat) (gd : Option (List Code)) (cn : Str) (cs : Scope) (a : Addr) (ccd : Value) (cl : List (Str × Addr)) (outer : List Env) (A₀ : Around) (base h₀ : Heap) (L : Addr) (m : Str → Option Value) (Q E : Value → Shared → Prop) (C : Cx w loose mean mg mb dp un gd cn cs a ccd cl outer A₀ base h₀ L m s) (N : News h₀ L s.heap [(mem, instObj 141 dm), (dm, dictOf [ent w "numeric" kn (.ref nums), ent w "characters" kc cha] 2), (nums, lstN its nn), (pl, tup [.int 0 t1, .int k t2, .int 0 t3, pu])]) (hd : dp + 10 < 1000)
    (hret : ∀ v' h' tk' q t4 t5, (∀ b o, s.heap.get? b = some o → b ≠ nums → h'.get? b = some o) → News h₀ L h' [(nums, lstN (its.set k.toNat (.ref q)) nn), (q, tup [.int 0 t4, .int v t5])] → s.heap.get? q = none → Q v' { s with heap := h', toks := tk' }) :
    wpAny (model PySem.Challenge.rw_zu0017_01.row.prog w) (ktrTop dp un gd cn cs L a ccd cl outer) (call (.ref 131) [.ref mem, .ref pl, .int v tv]) Q E s := by
  have hsz : ((its.toArray.size : Nat) : Int) = 6 := by simp [hlen]
  w_top off
  have X0 := C.X; revert X0; k_fill; intro X0
  (refine wpAny_call ?_; k_dflt (refine' enterT _ ?k1 ?k2 ?k3 ?k4 ?k5 ?kA ?kF ?kK ?k6 ?k7 ?k8 ?k9 ?kB ?_ ?c2 ?c3 ?c4 ?c5; (case kA => exact rfl); (case kF => exact rfl); (case kK => exact Cx.k (by assumption)); (case k1 => exact Cx.B (by assumption)); (case k2 => exact Cx.F (by assumption)); (case k3 => exact Cx.X (by assumption)); (case k4 => exact N); (case k5 => exact Cx.T (by assumption)); (case k6 => k_is); (case k7 => k_is); (case k8 => k_room); (case k9 => exact BindsTo.of_eq rfl); (case c5 => decide); (case kB => exact locs rfl); (case c2 => exact rfl); (case c3 => exact rfl); (case c4 => exact rfl); k_whole))
  intro g' L' h' hg FG' F' N' B' X' T'
  (try dsimp only)
  (with_reducible show wpAny _ _ _ _ _ _)
  k_fold
  k_with_none
  k_with "k_room" => (((try simp only [depth_mark, depth_under_make, depth_under_kw, depth_in1, depth_deeper, depth_caller]); (try dsimp only [ktrTop]); (try simp only [recursionLimit]); (first | exact rmk (by assumption) (by exact Nat.le_of_ble_eq_true rfl) | exact rmk1 (by assumption) (by exact Nat.le_of_ble_eq_true rfl) | exact rmk2 (by assumption) (by exact Nat.le_of_ble_eq_true rfl) | exact rmk3 (by assumption) (by exact Nat.le_of_ble_eq_true rfl) | exact rmk4 (by assumption) (by exact Nat.le_of_ble_eq_true rfl) | exact rmk0 (by assumption) | omega)))
  k_with "k_mem" => ((change (_ ∈ (_ : List (Addr × Obj))); ktr_member))
  k_with "k_mem" => (((change (_ ∈ ((_ ++ _) : List (Addr × Obj)))); first | (refine List.mem_append.mpr (Or.inl ?_); k_mem) | (refine List.mem_append.mpr (Or.inr ?_); k_mem)))
  k_with "binaryOp LShift int int" => (((refine lshift_int_small (by decide) (by decide) (by decide) ?_); rw [show ((1:Int) * 2 ^ ((32:Int) - 1).toNat) = 2147483648 from rfl]))
  k_with "tb_start" => (first | exact UpdN.head | (refine' UpdN.tail ?b; (case b => tb_start)))
  k_with "tb_rel" => (first | exact trivial | exact List.forall_mem_nil _ | (refine fmc (?a) (?b); (case a => first | (refine Or.inl ?_; k_cls) | (refine Or.inr ?_; assumption)); (case b => tb_rel)) | (refine And.intro ?a ?b; (case a => first | (refine Or.inl ?_; k_cls) | (refine Or.inr ?_; assumption)); (case b => tb_rel)))
  k_with "k_upd" => ((refine' UpdN.updS ?u9 ?n9 ?c9; (case u9 => tb_start); (case n9 => k_asm); (case c9 => tb_rel)))
  k_with "storeName" => (k_dflt (refine' storeX_any ?F ?N ?_ ?a ?b; (case F => k_asm); (case N => k_asm); (case a => rfl); (case b => rfl); k_whole); intro h' tk' F' N'; (try k_sweep))
  k_with "eval Call Name cons nil" => (refine Call_ ?_)
  k_with "eval Call Attribute cons nil" => (refine MethodCall_ ?_)
  k_with "spliced" => (first | ((with_reducible show wpAny _ _ (spliced (backTo _ (starEach (PySem.Expr.Name _ _ :: _) _))) _ _ _); k_dflt (refine' args_loc ?F ?v ?a ?b ?c ?_; (case F => k_asm); (case a => rfl); (case b => rfl); (case v => rfl); (case c => decide))) | ((with_reducible show wpAny _ _ (spliced (backTo _ (starEach (PySem.Expr.Constant (Const.int _) _ _ :: _) _))) _ _ _); refine args_int ?_) | ((with_reducible show wpAny _ _ (spliced (backTo _ (starEach (PySem.Expr.Constant (Const.str _) _ _ :: _) _))) _ _ _); refine args_str ?_))
  k_with "eval Attribute Name" => (k_dflt (refine' attr_loc ?F ?v ?a ?b ?c ?_; (case F => k_asm); (case a => rfl); (case b => rfl); (case v => rfl); (case c => decide)))
  k_with "eval Subscript" => (first | ((with_reducible show wpAny _ _ (eval (PySem.Expr.Subscript (PySem.Expr.Name _ _) (PySem.Expr.Constant (Const.int _) _ _) _) _) _ _ _); k_dflt (refine' sub_loc_int ?F ?v ?a ?b ?c ?_; (case F => k_asm); (case a => rfl); (case b => rfl); (case v => rfl); (case c => decide))) | ((with_reducible show wpAny _ _ (eval (PySem.Expr.Subscript (PySem.Expr.Name _ _) _ _) _) _ _ _); k_dflt (refine' sub_loc ?F ?v ?a ?b ?c ?_; (case F => k_asm); (case a => rfl); (case b => rfl); (case v => rfl); (case c => decide))))
  k_with "subscriptTail Name Constant ref int" => (k_dflt (refine' tup_led ?N ?m ?a ?b ?j ?x ?_ (by with_unfolding_all rfl); (case N => k_asm); (case m => k_mem); (case a => decide); (case b => decide); (case j => rfl); (case x => rfl)))
  k_with "call builtin:len cons nil" => (k_dflt ((refine len_list ⟨_, ((by k_asm : News _ _ _ _) (nums, lstN its nn) (by k_mem)).1, rfl, nn, rfl⟩ (by rw [hsz]; omega) ?_); rw [hsz]))
  k_with "setItem ref int ref" => (k_dflt (refine' list_set ?F ?N hk ?h1 ?h2 ?U ?_; (case h1 => exact Int.lt_of_lt_of_le hk2 (by rw [hlen]; decide)); (case h2 => exact Int.lt_trans hk2 (by decide)); (case F => k_asm); (case N => k_asm); (case U => k_upd)); intro h' F' N')
  repeat (first | (k_unfold; (try dsimp only)) | (k_end; wrow_close) | walk1 | (dsimp only; walk1) | (leave1; (try dsimp only)) | fail "no step")
  refine fun H => ?_
  (with_reducible rename News h₀ L _ _ => N8)
  refine hret _ _ _ _ _ _ (fun b o e hb => keep_but (d := nums) (n := nums) N N8 H (by (repeat' (first | exact List.forall_mem_nil _ | (refine List.forall_mem_cons.mpr (And.intro ?_ ?_)) | exact Or.inl rfl | exact Or.inr (Or.inl rfl) | exact Or.inr (Or.inr (by k_mem))))) b o e hb hb) (news_sub N8 (fmc (.tail _ (.tail _ (.tail _ (.head _)))) ((fmc (.head _) (List.forall_mem_nil _))))) ?hC
  refine fresh_in hg (by k_asm : News g' _ _ _) (.head _) ?_
  simp only [List.map_cons, List.map_nil, List.mem_cons, List.not_mem_nil, or_false, not_or]
  refine ⟨?_, ?_, ?_, ?_⟩ <;> (refine neN ?_; omega)
-- part T10d
theorem mstore_use {w : World} {s : Shared} {mem dm nums pl : Addr} {its : List Value} {nn : Nat} {k v : Int} {cha pu : Value} {kn kc t1 t2 t3 tv : Tok} {news : List (Addr × Obj)} {news' : Addr → List (Addr × Obj)} {loose : List Str} {mean : ExcName → Option Value} {mg mb : Str → Option Value} {dp un : Nat} {gd : Option (List Code)} {cn : Str} {cs : Scope} {a : Addr} {ccd : Value} {cl : List (Str × Addr)} {outer : List Env} {A₀ : Around} {base h₀ : Heap} {L : Addr} {m : Str → Option Value} {Q E : Value → Shared → Prop}
    (B : Below A₀ base outer h₀) (F : Fr h₀ L s.heap m) (X : (Mine.hd.heap_1_39 w.params).In h₀) (T : Top Mine.hd.view_1_40 loose mean mg mb h₀) (kf : cs.kind = .function) (N : News h₀ L s.heap news) (sub : ∀ q ∈ [(mem, instObj 141 dm), (dm, dictOf [ent w "numeric" kn (.ref nums), ent w "characters" kc cha] 2), (nums, lstN its nn), (pl, tup [.int 0 t1, .int k t2, .int 0 t3, pu])], q ∈ news) (hk : 0 ≤ k) (hk2 : k < 6) (hlen : its.length = 6)
    (U : ∀ q, Upd nums (lstN its nn) (lstN (its.set k.toNat (.ref q)) nn) news (news' q)) (hd : dp + 10 < 1000)
    (ret : ∀ v' h' tk' q t4 t5, Fr h₀ L h' m → News h₀ L h' ((q, tup [.int 0 t4, .int v t5]) :: news' q) → (∀ p ∈ news, @Ne Nat p.1 q) → Q v' { s with heap := h', toks := tk' }) :
    wpAny (model PySem.Challenge.rw_zu0017_01.row.prog w) (ktrTop dp un gd cn cs L a ccd cl outer) (call (.ref 131) [.ref mem, .ref pl, .int v tv]) Q E s := by
  refine mstore_ok w s hk hk2 hlen _ _ _ _ _ _ _ _ _ _ _ _ _ _ _ _ _ _ _ _ ⟨B, F, X, T, kf⟩ (news_sub N sub) hd fun v' h' tk' q t4 t5 kp hN hq => ?_
  obtain ⟨pre, post, e1, e2, ha, hb⟩ := (U q).split
  have z := N _ (sub _ (.tail _ (.tail _ (.head _))))
  refine ret v' h' tk' q t4 t5 (fr_but F (fun b o e h1 _ => kp b o e h1) z.2.1 z.2.2 z.2.1 z.2.2) (fmc (hN _ (.tail _ (.head _))) (?_)) (fun p hp e => by have := (N p hp).1; rw [e, hq] at this; cases this)
  rw [e2]
  rw [e1] at N
  intro p hp
  rcases List.mem_append.mp hp with hp | hp
  · have y := N p (List.mem_append_left _ hp)
    exact ⟨kp _ _ y.1 (ha p hp), y.2⟩
  · rcases List.mem_cons.mp hp with rfl | hp
    · exact hN _ (.head _)
    · have y := N p (List.mem_append_right _ (.tail _ hp))
      exact ⟨kp _ _ y.1 (hb p hp), y.2⟩
-- part T3
theorem keep_at {g h : Heap} {a : Addr} {o : Obj} (e : g.get? a = some o) (k : ∀ b o, g.get? b = some o → h.get? b = some o) : h.get? a = some o := k _ _ e
noncomputable def Var.same : Var → Var → Bool
  | .I, .I => true | .J, .J => true | .K, .K => true | .D, .D => true | .W, .W => true | .M, .M => true
  | _, _ => false
noncomputable def put {α : Type} (x : Var) (a : α) (f : Var → α) (y : Var) : α := cond (x.same y) a (f y)
noncomputable def St.put (e : St) (x : Var) (n : Int) : St := ⟨Mine.put x n e.get .I, Mine.put x n e.get .J, Mine.put x n e.get .K, Mine.put x n e.get .D, Mine.put x n e.get .W, Mine.put x n e.get .M⟩
theorem put_get (e : St) (x y : Var) (n : Int) : (e.put x n).get y = Mine.put x n e.get y := by cases y <;> rfl
theorem cell_mem {x y : Var} {q : Addr} {c : Var → Addr} {td te : Var → Tok} {e : St} {n : Int} {ka kb : Tok} {l : List (Addr × Obj)} (h1 : (q, tup [.int 0 ka, .int n kb]) ∈ l) (h2 : (c y, tup [.int 0 (td y), .int (e.get y) (te y)]) ∈ l) :
    (Mine.put x q c y, tup [.int 0 (Mine.put x ka td y), .int ((e.put x n).get y) (Mine.put x kb te y)]) ∈ l := by
  rw [put_get]
  unfold Mine.put
  cases x.same y
  · exact h2
  · exact h1
noncomputable abbrev numsOf (c : Var → Addr) : List Value := [.ref (c .I), .ref (c .J), .ref (c .K), .ref (c .D), .ref (c .W), .ref (c .M)]
theorem put_nums {c : Var → Addr} {x : Var} {q : Addr} : (numsOf c).set x.idx.toNat (.ref q) = numsOf (Mine.put x q c) := by cases x <;> rfl
set_option maxHeartbeats 8000000 in
theorem execassign_ok (w : World) (e : St) (r : Rw) (u : Mv) (ok : Rok w r) (sep : Sep r) {oh : Obj} {stKvs : List (Str × Value)} (hoh : oh.IsDictOf (PySem.strKind PySem.Challenge.rw_zu0017_01.row.prog w) stKvs) (hlo : (u.hd == sysModules) = false) (hhn : @Ne Nat u.hd r.nums) (hst : valueAt stKvs (Str.ofString "assign") = some (.ref 533)) (x : Var) (t : Ex) (hf : t.Fits e)
    (s : Shared) {st0 tg : Addr} {ve un : Value} {i : Int} (i0 : 0 ≤ i) (i1 : i < 1000) {k1 k2 k3 k4 k5 : Tok} (hs : s.heap.get? st0 = some (tup [.str (Str.ofString "assign") k1, .ref tg, ve])) (ht : s.heap.get? tg = some (tup [.str (Str.ofString "var") k2, .int 0 k3, .str (Str.ofString x.name) k4])) (hv : ExAt s.heap ve t) :
    Works w 491 (30 + 4 * t.depth) [.ref r.run, un, .int i k5, .ref st0] s e r u [(u.hd, oh)] (fun e' u' v => e.put x (t.eval e) = e' ∧ (∃ k, v = .int (i + 1) k) ∧ (∃ c td te, { u with c := c, td := td, te := te } = u')) := by
  have hi1 := x.idx0
  have hi2 := x.idx6
  have ok' : Rok w (r.upd u) := ⟨ok.e, ok.el, ok.o, ok.ol, ok.f, ok.fl⟩
  intro loose mean mg mb dp un gd cn cs a ccd cl outer A₀ base h₀ L m Q E C N hd hret
  obtain ⟨sp1, sp2, sp3, sp4, sp5, sp6, sp7, sp8⟩ := sep
  have ⟨oke, okel, oko, okol, okf, okfl⟩ := ok
  have hl : ∀ p ∈ (u.hd, oh) :: lit w e (r.upd u), leads p.2 = false := fmc (leads_dict hoh) (lit_leads ok')
  have N1 : News h₀ L s.heap ((r.p x, tup [.int 0 (r.ta x), .int x.idx (r.tb x), .int 0 (r.tc x), r.u x]) :: (u.c x, tup [.int 0 (u.td x), .int (e.get x) (u.te x)]) :: (u.hd, oh) :: lit w e (r.upd u)) := by
    refine List.forall_mem_cons.mpr (And.intro ?_ (List.forall_mem_cons.mpr (And.intro ?_ N)))
    · exact N _ (.tail _ (litx_sub w e (r.upd u) x _ (by k_mem)))
    · exact N _ (.tail _ (litx_sub w e (r.upd u) x _ (by k_mem)))
  clear N
  have N := N1
  clear N1
  have gs : st0 ∉ (((r.p x, tup [.int 0 (r.ta x), .int x.idx (r.tb x), .int 0 (r.tc x), r.u x]) :: (u.c x, tup [.int 0 (u.td x), .int (e.get x) (u.te x)]) :: (u.hd, oh) :: lit w e (r.upd u)) : List (Addr × Obj)).map (·.1) := not_in N hs rfl (fmc (rfl) ((fmc (rfl) (hl))))
  have gt : tg ∉ (((r.p x, tup [.int 0 (r.ta x), .int x.idx (r.tb x), .int 0 (r.tc x), r.u x]) :: (u.c x, tup [.int 0 (u.td x), .int (e.get x) (u.te x)]) :: (u.hd, oh) :: lit w e (r.upd u)) : List (Addr × Obj)).map (·.1) := not_in N ht rfl (fmc (rfl) ((fmc (rfl) (hl))))
  rw [lit_u] at N
  dsimp only [litU, List.nil_append] at N
  rw [lit_u] at gs gt
  dsimp only [litU] at gs gt
  w_top off
  have X0 := C.X; revert X0; k_fill; intro X0
  (refine wpAny_call ?_; k_dflt (refine' enterT _ ?k1 ?k2 ?k3 ?k4 ?k5 ?kA ?kF ?kK ?k6 ?k7 ?k8 ?k9 ?kB ?_ ?c2 ?c3 ?c4 ?c5; (case kA => exact rfl); (case kF => exact rfl); (case kK => exact Cx.k (by assumption)); (case k1 => exact Cx.B (by assumption)); (case k2 => exact Cx.F (by assumption)); (case k3 => exact Cx.X (by assumption)); (case k4 => exact N); (case k5 => exact Cx.T (by assumption)); (case k6 => k_is); (case k7 => k_is); (case k8 => k_room); (case k9 => exact BindsTo.of_eq rfl); (case c5 => decide); (case kB => exact locs rfl); (case c2 => exact rfl); (case c3 => exact rfl); (case c4 => exact rfl); k_whole))
  intro g' L' h' hg FG' F' N' B' X' T'
  have h7 := hg _ _ ht gt
  have h9 : IsTup g' st0 #[.str (Str.ofString "assign") k1, .ref tg, ve] := ⟨_, hg _ _ hs gs, rfl, 0, rfl⟩
  have hK := keepAll hg N
  (try dsimp only)
  (with_reducible show wpAny _ _ _ _ _ _)
  k_fold
  k_with_none
  k_with "k_room" => (((try simp only [depth_mark, depth_under_make, depth_under_kw, depth_in1, depth_deeper, depth_caller]); (try dsimp only [ktrTop]); (try simp only [recursionLimit]); (first | exact rmk (by assumption) (by exact Nat.le_of_ble_eq_true rfl) | exact rmk1 (by assumption) (by exact Nat.le_of_ble_eq_true rfl) | exact rmk2 (by assumption) (by exact Nat.le_of_ble_eq_true rfl) | exact rmk3 (by assumption) (by exact Nat.le_of_ble_eq_true rfl) | exact rmk4 (by assumption) (by exact Nat.le_of_ble_eq_true rfl) | exact rmk0 (by assumption) | omega)))
  k_with "k_mem" => ((change (_ ∈ (_ : List (Addr × Obj))); ktr_member))
  k_with "k_mem" => (((change (_ ∈ ((_ ++ _) : List (Addr × Obj)))); first | (refine List.mem_append.mpr (Or.inl ?_); k_mem) | (refine List.mem_append.mpr (Or.inr ?_); k_mem)))
  k_with "binaryOp LShift int int" => (((refine lshift_int_small (by decide) (by decide) (by decide) ?_); rw [show ((1:Int) * 2 ^ ((32:Int) - 1).toNat) = 2147483648 from rfl]))
  k_with "tb_start" => (first | exact UpdN.head | (refine' UpdN.tail ?b; (case b => tb_start)))
  k_with "tb_rel" => (first | exact trivial | exact List.forall_mem_nil _ | (refine fmc (?a) (?b); (case a => first | (refine Or.inl ?_; k_cls) | (refine Or.inr ?_; assumption)); (case b => tb_rel)) | (refine And.intro ?a ?b; (case a => first | (refine Or.inl ?_; k_cls) | (refine Or.inr ?_; assumption)); (case b => tb_rel)))
  k_with "k_upd" => ((refine' UpdN.updS ?u9 ?n9 ?c9; (case u9 => tb_start); (case n9 => k_asm); (case c9 => tb_rel)))
  k_with "storeName" => (k_dflt (refine' storeX_any ?F ?N ?_ ?a ?b; (case F => k_asm); (case N => k_asm); (case a => rfl); (case b => rfl); k_whole); intro h' tk' F' N'; (try k_sweep))
  k_with "eval Call Name cons nil" => (refine Call_ ?_)
  k_with "eval Call Attribute cons nil" => (refine MethodCall_ ?_)
  k_with "spliced" => (first | ((with_reducible show wpAny _ _ (spliced (backTo _ (starEach (PySem.Expr.Name _ _ :: _) _))) _ _ _); k_dflt (refine' args_loc ?F ?v ?a ?b ?c ?_; (case F => k_asm); (case a => rfl); (case b => rfl); (case v => rfl); (case c => decide))) | ((with_reducible show wpAny _ _ (spliced (backTo _ (starEach (PySem.Expr.Constant (Const.int _) _ _ :: _) _))) _ _ _); refine args_int ?_) | ((with_reducible show wpAny _ _ (spliced (backTo _ (starEach (PySem.Expr.Constant (Const.str _) _ _ :: _) _))) _ _ _); refine args_str ?_))
  k_with "eval Attribute Name" => (k_dflt (refine' attr_loc ?F ?v ?a ?b ?c ?_; (case F => k_asm); (case a => rfl); (case b => rfl); (case v => rfl); (case c => decide)))
  k_with "eval Subscript" => (first | ((with_reducible show wpAny _ _ (eval (PySem.Expr.Subscript (PySem.Expr.Name _ _) (PySem.Expr.Constant (Const.int _) _ _) _) _) _ _ _); k_dflt (refine' sub_loc_int ?F ?v ?a ?b ?c ?_; (case F => k_asm); (case a => rfl); (case b => rfl); (case v => rfl); (case c => decide))) | ((with_reducible show wpAny _ _ (eval (PySem.Expr.Subscript (PySem.Expr.Name _ _) _ _) _) _ _ _); k_dflt (refine' sub_loc ?F ?v ?a ?b ?c ?_; (case F => k_asm); (case a => rfl); (case b => rfl); (case v => rfl); (case c => decide))))
  k_with "subscriptTail Name Constant ref int" => (k_dflt (refine item_tupleT (IsTup.keeps h9 (by first | exact Fr.keep (by k_asm) | (intro b9 o9 q9; refine Fr.keep (by k_asm) b9 o9 ?_; exact Fr.keep (by k_asm) b9 o9 q9) | (intro b9 o9 q9; refine Fr.keep (by k_asm) b9 o9 ?_; refine Fr.keep (by k_asm) b9 o9 ?_; exact Fr.keep (by k_asm) b9 o9 q9))) (by decide) (by decide) rfl rfl ?_))
  k_with "compareOp NotIn str ref" => (k_dflt (refine kdg_notin (knd := PySem.strKind _ _) (by k_asm) (by k_mem) hoh hlo (strKind_is _ _ _ _) true (by rw [hst]; rfl) ?_); (try dsimp only [Bool.not_true, Bool.not_false]))
  k_with "getItem ref str" => (k_dflt (refine wpAny_getItem_of (strKind_is _ _ _ _) (kda_dict (by k_asm) (by k_mem) hoh).mapOf hst ?_))
  k_with "call ref cons nil" => first | ((with_reducible show wpAny _ _ (call (Value.ref 131) _) _ _ _); k_dflt (refine' mstore_use (pl := r.p x) (its := numsOf u.c) (nn := r.nn) (k := x.idx) (news' := fun q => [(r.p x, plc r x x.idx), (u.c x, celX u.td u.te x (e.get x)), (u.hd, oh), (r.run, instObj 330 r.dr), (r.dr, runX w r (.ref u.hd) (.int u.st u.tst) (.ref u.fl)), (r.ex, r.oex), (r.ope, r.oope), (r.fra, r.ofra), (r.mem, instObj 141 r.dm), (r.dm, memD w r), (r.nums, lstN ((numsOf u.c).set x.idx.toNat (.ref q)) r.nn), (r.lim, instObj 677 r.dl), (r.dl, limX w r (.int 1000000 u.t4)), (r.p .I, plc r .I 0), (u.c .I, celX u.td u.te .I e.I), (r.p .J, plc r .J 1), (u.c .J, celX u.td u.te .J e.J), (r.p .K, plc r .K 2), (u.c .K, celX u.td u.te .K e.K), (r.p .D, plc r .D 3), (u.c .D, celX u.td u.te .D e.D), (r.p .W, plc r .W 4), (u.c .W, celX u.td u.te .W e.W), (r.p .M, plc r .M 5), (u.c .M, celX u.td u.te .M e.M)]) ?wB ?wF ?wX ?wT ?wk ?wN ?wsub hi1 hi2 rfl ?wU ?whd ?_; (case wB => k_asm); (case wF => k_asm); (case wX => k_asm); (case wT => k_asm); (case wk => exact rfl); (case wN => k_asm); (case wsub => (refine sub_cons ?_ (sub_cons ?_ (sub_cons ?_ (sub_cons ?_ sub_nil))) <;> k_mem)); (case wU => intro q9; k_upd); (case whd => ((try simp only [depth_mark, depth_deeper]); (try dsimp only [ktrTop]); (first | exact rmk (by assumption) (by exact Nat.le_of_ble_eq_true rfl) | exact rmk1 (by assumption) (by exact Nat.le_of_ble_eq_true rfl) | exact rmk2 (by assumption) (by exact Nat.le_of_ble_eq_true rfl) | exact rmk3 (by assumption) (by exact Nat.le_of_ble_eq_true rfl) | exact rmk4 (by assumption) (by exact Nat.le_of_ble_eq_true rfl) | exact rmk0 (by assumption) | omega))); intro v9 h9' tk9 q9 t8 t7 F9 N9 ne9; (try dsimp only at N9); rw [put_nums] at N9)) | (k_dflt (refine Does.use (by k_asm) (by k_asm) (by k_asm) (by k_asm) (by exact rfl) (by k_asm) (ev_ok w e (r.upd u) ok' t _ ve (hv.keeps (hK _ (by first | exact Fr.keep (by k_asm) | (intro b9 o9 q9; refine Fr.keep (by k_asm) b9 o9 ?_; exact Fr.keep (by k_asm) b9 o9 q9) | (intro b9 o9 q9; refine Fr.keep (by k_asm) b9 o9 ?_; refine Fr.keep (by k_asm) b9 o9 ?_; exact Fr.keep (by k_asm) b9 o9 q9)) (fun q hq => ((by k_asm : News _ _ _ _) q (by first | exact hq | exact .tail _ hq | exact .tail _ (.tail _ hq) | exact .tail _ (.tail _ (.tail _ hq)))).1))) hf) (by first | exact fun q hq => hq | exact fun q hq => hq | exact fun q hq => .tail _ hq | exact fun q hq => .tail _ (.tail _ hq) | exact fun q hq => .tail _ (.tail _ (.tail _ hq))) (by ((try simp only [depth_mark, depth_deeper]); (try dsimp only [ktrTop]); (first | exact rmk (by assumption) (by exact Nat.le_of_ble_eq_true rfl) | exact rmk1 (by assumption) (by exact Nat.le_of_ble_eq_true rfl) | exact rmk2 (by assumption) (by exact Nat.le_of_ble_eq_true rfl) | exact rmk3 (by assumption) (by exact Nat.le_of_ble_eq_true rfl) | exact rmk4 (by assumption) (by exact Nat.le_of_ble_eq_true rfl) | exact rmk0 (by assumption) | omega))) ?_); intro v9 h9' tk9 F9 N9 kp9 e9; obtain ⟨t9, e9⟩ := e9; subst e9) | (k_dflt (refine Does.use (by k_asm) (by k_asm) (by k_asm) (by k_asm) (by exact rfl) (by k_asm) ((place_ok w e (r.upd u) ok' x _ (keep_at h7 (by first | exact Fr.keep (by k_asm) | (intro b9 o9 q9; refine Fr.keep (by k_asm) b9 o9 ?_; exact Fr.keep (by k_asm) b9 o9 q9) | (intro b9 o9 q9; refine Fr.keep (by k_asm) b9 o9 ?_; refine Fr.keep (by k_asm) b9 o9 ?_; exact Fr.keep (by k_asm) b9 o9 q9)))).mono (nd' := 10) (by decide) (litx_sub w e (r.upd u) x)) (by first | exact fun q hq => hq | exact fun q hq => hq | exact fun q hq => .tail _ hq | exact fun q hq => .tail _ (.tail _ hq) | exact fun q hq => .tail _ (.tail _ (.tail _ hq))) (by ((try simp only [depth_mark, depth_deeper]); (try dsimp only [ktrTop]); (first | exact rmk (by assumption) (by exact Nat.le_of_ble_eq_true rfl) | exact rmk1 (by assumption) (by exact Nat.le_of_ble_eq_true rfl) | exact rmk2 (by assumption) (by exact Nat.le_of_ble_eq_true rfl) | exact rmk3 (by assumption) (by exact Nat.le_of_ble_eq_true rfl) | exact rmk4 (by assumption) (by exact Nat.le_of_ble_eq_true rfl) | exact rmk0 (by assumption) | omega))) ?_); intro v9 h9' tk9 F9 N9 kp9 e9; subst e9)
  repeat (first | (k_unfold; (try dsimp only)) | (k_end; wrow_close) | walk1 | (dsimp only; walk1) | (leave1; (try dsimp only)) | fail "no step")
  refine fun H => ?_
  (with_reducible rename News h₀ L _ _ => N8)
  refine' hret _ _ _ (e.put x (t.eval e)) ({ u with c := Mine.put x q9 u.c, td := Mine.put x t8 u.td, te := Mine.put x t7 u.te }) (keep_but N N8 H ?h9) (news_sub N8 ?n9) ⟨rfl, ⟨_, rfl⟩, _, _, _, rfl⟩
  case n9 => (rw [lit_u]; dsimp only [litU]; refine List.forall_mem_cons.mpr (And.intro (by k_mem) ?_); refine List.forall_mem_cons.mpr (And.intro (by k_mem) ?_); refine List.forall_mem_cons.mpr (And.intro (by k_mem) ?_); refine List.forall_mem_cons.mpr (And.intro (by k_mem) ?_); refine List.forall_mem_cons.mpr (And.intro (by k_mem) ?_); refine List.forall_mem_cons.mpr (And.intro (by k_mem) ?_); refine List.forall_mem_cons.mpr (And.intro (by k_mem) ?_); refine List.forall_mem_cons.mpr (And.intro (by k_mem) ?_); refine List.forall_mem_cons.mpr (And.intro (by k_mem) ?_); refine List.forall_mem_cons.mpr (And.intro (by k_mem) ?_); refine List.forall_mem_cons.mpr (And.intro (by k_mem) ?_); refine List.forall_mem_cons.mpr (And.intro (cell_mem (y := .I) (by k_mem) (by k_mem)) ?_); refine List.forall_mem_cons.mpr (And.intro (by k_mem) ?_); refine List.forall_mem_cons.mpr (And.intro (cell_mem (y := .J) (by k_mem) (by k_mem)) ?_); refine List.forall_mem_cons.mpr (And.intro (by k_mem) ?_); refine List.forall_mem_cons.mpr (And.intro (cell_mem (y := .K) (by k_mem) (by k_mem)) ?_); refine List.forall_mem_cons.mpr (And.intro (by k_mem) ?_); refine List.forall_mem_cons.mpr (And.intro (cell_mem (y := .D) (by k_mem) (by k_mem)) ?_); refine List.forall_mem_cons.mpr (And.intro (by k_mem) ?_); refine List.forall_mem_cons.mpr (And.intro (cell_mem (y := .W) (by k_mem) (by k_mem)) ?_); refine List.forall_mem_cons.mpr (And.intro (by k_mem) ?_); refine List.forall_mem_cons.mpr (And.intro (cell_mem (y := .M) (by k_mem) (by k_mem)) ?_); exact List.forall_mem_nil _)
  case h9 => (repeat' (first | exact List.forall_mem_nil _ | (refine List.forall_mem_cons.mpr (And.intro ?_ ?_)) | exact Or.inl rfl | exact Or.inr (Or.inl rfl) | exact Or.inr (Or.inr (by k_mem))))
-- part T6
set_option genInjectivity false in
structure Un where
  (k0 k1 k2 k3 k4 k5 k6 k7 k8 k9 k10 k11 k12 k13 tP : Tok)
  (v0 v2 v3 v4 v6 v7 v8 v9 v10 v11 v12 v13 : Value)
noncomputable abbrev unitD (w : World) (q : Un) (stl : Addr) : Obj := dictOf [ent w "kind" q.k0 q.v0, ent w "name" q.k1 (.str (Str.ofString "P") q.tP), ent w "dummies" q.k2 q.v2, ent w "entries" q.k3 q.v3, ent w "symbols" q.k4 q.v4, ent w "statements" q.k5 (.ref stl), ent w "formats" q.k6 q.v6, ent w "labels" q.k7 q.v7, ent w "result" q.k8 q.v8, ent w "commons" q.k9 q.v9, ent w "equivs" q.k10 q.v10, ent w "datas" q.k11 q.v11, ent w "saves" q.k12 q.v12, ent w "constants" q.k13 q.v13] 14
/-- a call that ends the run: only the run's world is told -/
noncomputable def Ends (w : World) (f : Addr) (nd : Nat) (vs : List Value) (s : Shared) (e : St) (r : Rw) (u : Mv) (ex : List (Addr × Obj)) (P : St → Prop) : Prop :=
  ∀ (loose : List Str) (mean : ExcName → Option Value) (mg mb : Str → Option Value) (dp un : Nat) (gd : Option (List Code)) (cn : Str) (cs : Scope) (a : Addr) (ccd : Value) (cl : List (Str × Addr)) (outer : List Env) (A₀ : Around) (base h₀ : Heap) (L : Addr) (m : Str → Option Value) (Q E : Value → Shared → Prop),
    Cx w loose mean mg mb dp un gd cn cs a ccd cl outer A₀ base h₀ L m s → News h₀ L s.heap (ex ++ lit w e (r.upd u)) → dp + nd < 1000 →
    (∀ v h' tk' e' u', (∀ b o, s.heap.get? b = some o → b ∉ (ex ++ lit w e (r.upd u)).map (·.1) → h'.get? b = some o) → Fr h₀ L h' m → News h₀ L h' (lit w e' (r.upd u')) → P e' → Q v { s with heap := h', toks := tk' }) →
    wpAny (model PySem.Challenge.rw_zu0017_01.row.prog w) (ktrTop dp un gd cn cs L a ccd cl outer) (call (.ref f) vs) Q E s
theorem flow_use {w : World} {f : Addr} {nd : Nat} {vs : List Value} {s : Shared} {news : List (Addr × Obj)} {C : List (Int × Value) → Prop}
    {loose : List Str} {mean : ExcName → Option Value} {mg mb : Str → Option Value} {dp un : Nat} {gd : Option (List Code)} {cn : Str} {cs : Scope} {a : Addr} {ccd : Value} {cl : List (Str × Addr)} {outer : List Env} {A₀ : Around} {base h₀ : Heap} {L : Addr} {m : Str → Option Value} {Q E : Value → Shared → Prop}
    (B : Below A₀ base outer h₀) (F : Fr h₀ L s.heap m) (X : (Mine.hd.heap_1_39 w.params).In h₀) (T : Top Mine.hd.view_1_40 loose mean mg mb h₀) (k : cs.kind = .function) (N : News h₀ L s.heap news)
    (D : Makes w f nd vs s (fun tl v => ∃ kvs, FlowIs w kvs tl v ∧ C kvs)) (hd : dp + nd < 1000)
    (ret : ∀ fw fd q o1 o4 kvs h' tk', Fr h₀ L h' m → News h₀ L h' ((fw, instObj 426 fd) :: (fd, flowD w q) :: (q.d4, o4) :: (q.d1, o1) :: news) → (∀ p ∈ news, @Ne Nat fw p.1 ∧ @Ne Nat fd p.1 ∧ @Ne Nat q.d4 p.1 ∧ @Ne Nat q.d1 p.1) →
      o1.IsDictOf (PySem.intKind PySem.Challenge.rw_zu0017_01.row.prog w) kvs → (q.d1 == sysModules) = false → o4.IsDictOf (PySem.intKind PySem.Challenge.rw_zu0017_01.row.prog w) [] → (q.d4 == sysModules) = false → C kvs → Q (.ref fw) { s with heap := h', toks := tk' }) :
    wpAny (model PySem.Challenge.rw_zu0017_01.row.prog w) (ktrTop dp un gd cn cs L a ccd cl outer) (call (.ref f) vs) Q E s := by
  refine Makes.use B F X T k N D hd fun v h' tk' tl F' N' ap lt hP => ?_
  obtain ⟨kvs, ⟨fw, fd, q, o1, o4, e, m1, m2, m3, i1, l1, m4, i4, l4⟩, hC⟩ := hP
  subst e
  refine ret fw fd q o1 o4 kvs h' tk' F' (news_sub N' fun p hp => ?_) (fun p hp => ⟨ap _ m1 p hp, ap _ m2 p hp, ap _ m4 p hp, ap _ m3 p hp⟩) i1 l1 i4 l4 hC
  simp only [List.mem_cons] at hp
  rcases hp with rfl | rfl | rfl | rfl | hp
  · exact List.mem_append_left _ m1
  · exact List.mem_append_left _ m2
  · exact List.mem_append_left _ m4
  · exact List.mem_append_left _ m3
  · exact List.mem_append_right _ hp
/-- an object that is a row of statements -/
noncomputable def rowy (o : Obj) : Bool := match o.data with
  | .seq vs _ => (match vs.toList with | [.int _ _, .ref _, .int _ _] => true | _ => false)
  | _ => false
theorem rowy_dict {prog : Program} {w : World} {K : Type} [DecidableEq K] {knd : KeyKind prog w K} {o : Obj} {kvs : List (K × Value)} (h : o.IsDictOf knd kvs) : rowy o = false := by
  obtain ⟨es, n, h1, h2, h3, _⟩ := h
  unfold rowy
  first | rw [h1] | rw [h2] | rw [h3]
theorem not_in2 {f : Obj → Bool} {h₀ : Heap} {L : Addr} {h : Heap} {lit : List (Addr × Obj)} (N : News h₀ L h lit) {x : Addr} {o : Obj} (hx : h.get? x = some o) (ho : f o = true) (hn : ∀ p ∈ lit, f p.2 = false) : x ∉ lit.map (·.1) := by
  intro hm
  obtain ⟨q, hq, rfl⟩ := List.mem_map.mp hm
  have := (N q hq).1
  rw [hx] at this
  cases this
  rw [hn q hq] at ho
  cases ho
theorem ExAt.leave {h₀ h g : Heap} {L : Addr} {lt : List (Addr × Obj)} (hg : ∀ b o, h.get? b = some o → b ∉ lt.map (·.1) → g.get? b = some o) (N : News h₀ L h lt) (hl : ∀ p ∈ lt, leads p.2 = false) {v : Value} {x : Ex} (h : ExAt h v x) : ExAt g v x := by
  induction h with
  | int q => exact .int (hg _ _ q (not_in N q rfl hl))
  | var q => exact .var (hg _ _ q (not_in N q rfl hl))
  | bin q _ _ a b => exact .bin (hg _ _ q (not_in N q rfl hl)) a b
theorem lit_rowy {w : World} {e : St} {r : Rw} (h : Rok w r) : ∀ p ∈ lit w e r, rowy p.2 = false :=
  fmc rfl (fmc rfl (fmc (rowy_dict h.e) (fmc (rowy_dict h.o) (fmc (rowy_dict h.f) (fmc rfl (fmc rfl (fmc rfl (fmc rfl (fmc rfl (fmc rfl (fmc rfl (fmc rfl (fmc rfl (fmc rfl (fmc rfl (fmc rfl (fmc rfl (fmc rfl (fmc rfl (fmc rfl (fmc rfl (List.forall_mem_nil _))))))))))))))))))))))
-- part T8
section
variable {prog : Program} {w : World} {A : Around} {E : Value → Shared → Prop} {s : Shared} {env : Env} {h₀ : Heap} {L : Addr} {test : PySem.Expr} {body : List Stmt} {Q : Flow → Shared → Prop}
/-- a while by what holds ahead of each turn and a number that falls; a turn may return -/
theorem while_inv {pos : Pos} {m₀ : Str → Option Value} {news : List (Addr × Obj)} (J : Nat → (Str → Option Value) → List (Addr × Obj) → Prop) (k₀ : Nat) (F : Fr h₀ L s.heap m₀) (N : News h₀ L s.heap news) (hj : J k₀ m₀ news) (h0 : ∀ m nx, ¬ J 0 m nx)
    (turn : ∀ k m₁ nx h tk, J (k + 1) m₁ nx → Fr h₀ L h m₁ → News h₀ L h nx →
      wpAny (model prog w) A (isTrue test env (eval test env)) (fun b s₂ => WhlIf b (wpAny (model prog w) A (execs body env) (TbPost h₀ L (J k) [] { s with heap := h, toks := tk } Q) E s₂) (wpAny (model prog w) A (execs [] env) Q E s₂)) E { s with heap := h, toks := tk })
    (hE : PassesOwn (model prog w) A env E) :
    wpAny (model prog w) A (exec (.While test body [] pos) env) Q E s := by
  have key : ∀ k m₁ nx h tk, J k m₁ nx → Fr h₀ L h m₁ → News h₀ L h nx → WhlRest prog w A E env test body [] Q k { s with heap := h, toks := tk } := by
    intro k
    induction k with
    | zero => exact fun m nx _ _ hJ => absurd hJ (h0 m nx)
    | succ k ih =>
      intro m₁ nx h tk hJ F₁ N₁
      refine whl_turn hE (wpAny_mono (turn k m₁ nx h tk hJ F₁ N₁) (fun b s₂ h₂ => ?_) fun _ _ e => e)
      cases b with
      | false => exact h₂
      | true =>
        refine wpAny_mono h₂ (fun f s₃ p => ?_) fun _ _ e => e
        have fin : TbEnd h₀ L (J k) [] { s with heap := h, toks := tk } s₃ → WhlRest prog w A E env test body [] Q k s₃ := by
          rintro ⟨h', tk', m', news', nx', rfl, F', N', hn, -, -, hm⟩
          exact ih m' nx' h' tk' hm F' (news_sub N' hn)
        cases f with
        | ret v => exact p
        | brk => exact p
        | next => exact fin p
        | cont => exact fin p
  exact whl_start k₀ (key k₀ m₀ news s.heap s.toks hj F N)
end
inductive Cmd where
  | asg (x : Var) (t : Ex)
  | iff (x : Var) (n : Int)
  | on
  | fin
noncomputable def RowIs (h : Heap) (q : Row) : Cmd → Prop
  | .asg x t => q.w = "assign" ∧ ∃ (tg : Addr) (ve : Value) (k1 k2 k3 : Tok), q.vs = [.ref tg, ve] ∧ h.get? tg = some (tup [.str (Str.ofString "var") k1, .int 0 k2, .str (Str.ofString x.name) k3]) ∧ ExAt h ve t
  | .iff x n => q.w = "if" ∧ ∃ (b c : Addr) (v : Value) (k1 k2 k3 k4 k5 : Tok), q.vs = [.ref b] ∧ h.get? b = some (tup [.str (Str.ofString "le") k1, .int 4 k2, .ref c, v]) ∧ h.get? c = some (tup [.str (Str.ofString "var") k3, .int 0 k4, .str (Str.ofString x.name) k5]) ∧ ExAt h v (.int n)
  | .on => q.w = "endif" ∧ q.vs = []
  | .fin => q.w = "end" ∧ q.vs = []
/-- what a run of the commands comes to; j: the end of the block -/
inductive RunsTo (cs : List Cmd) (j : Nat) (e' : St) : Nat → Nat → St → Prop
  | asg {k i e x t} : cs[i]? = some (.asg x t) → t.Fits e → t.depth ≤ 20 → RunsTo cs j e' k (i + 1) (e.put x (t.eval e)) → RunsTo cs j e' (k + 1) i e
  | yes {k i e x n} : cs[i]? = some (.iff x n) → e.get x ≤ n → RunsTo cs j e' k (i + 1) e → RunsTo cs j e' (k + 1) i e
  | no {k i e x n} : cs[i]? = some (.iff x n) → ¬ e.get x ≤ n → RunsTo cs j e' k (j + 1) e → RunsTo cs j e' (k + 1) i e
  | on {k i e} : cs[i]? = some .on → RunsTo cs j e' k (i + 1) e → RunsTo cs j e' (k + 1) i e
  | fin {k i} : cs[i]? = some .fin → RunsTo cs j e' (k + 1) i e'
noncomputable def frU (f? : Option Value) (at_ : Value) (rest : List (Str × Value)) (y : Str) : Option Value :=
  if y = Str.ofString "at" then some at_ else if y = Str.ofString "found" then f? else rest.lookup y
theorem frU_next {f? : Option Value} {v1 v2 v3 : Value} {rest : List (Str × Value)} (y : Str) : (if y = Str.ofString "at" then some v2 else if y = Str.ofString "found" then some v1 else frU f? v3 rest y) = frU (some v1) v2 rest y := by
  unfold frU
  by_cases h1 : y = Str.ofString "at"
  · simp only [if_pos h1]
  · by_cases h2 : y = Str.ofString "found"
    · simp only [if_neg h1, if_pos h2]
    · simp only [if_neg h1, if_neg h2]
/-- what stands ahead of a turn of the run -/
inductive RuInv (w : World) (r : Rw) (u₀ : Mv) (cs : List Cmd) (j : Nat) (e' : St) (fv : List (Str × Value)) (rest : List (Addr × Obj)) (k : Nat) (m : Str → Option Value) (nx : List (Addr × Obj)) : Prop
  | mk (f? : Option Value) (i : Nat) (t : Tok) (e : St) (c : Var → Addr) (td te : Var → Tok) (st : Int) (tst : Tok) (f0 : m = frU f? (.int i t) fv) (f1 : nx = rest ++ lit w e (r.upd { u₀ with c := c, td := td, te := te, st := st, tst := tst })) (f2 : RunsTo cs j e' k i e) (f3 : 0 ≤ st) (f4 : st + k ≤ 100) : RuInv w r u₀ cs j e' fv rest k m nx
-- part T9
theorem list_any {prog : Program} {w : World} {A : Around} {E : Value → Shared → Prop} {s : Shared} {value slice : PySem.Expr} {l : Addr} {items : Array Value} {k : Int} {u : Tok} {x : Value} {Q : Value → Shared → Prop} (hl : s.heap.IsList l items)
    (h0 : 0 ≤ k) (hfit : k < 2 ^ 63) (hx : items[k.toNat]? = some x) (h : Q x s)
    (hs : subscripted slice false (.ref l) (.int k u) = operate [.ref l, .int k u] (getItem (.ref l) (.int k u))) :
    wpAny (model prog w) A (subscriptTail value slice (.ref l) (.int k u)) Q E s :=
  tail_any hl.typeIs slot_list_getitem.lookup (wpAny_getItem_list hl h0 hfit hx h) hs
theorem dict_any {prog : Program} {w : World} {K : Type} [DecidableEq K] {knd : KeyKind prog w K} {A : Around} {E : Value → Shared → Prop} {s : Shared} {value slice : PySem.Expr} {h₀ : Heap} {L d : Addr} {news : List (Addr × Obj)} {o : Obj} {kvs : List (K × Value)} {k : K} {key v : Value} {Q : Value → Shared → Prop}
    (N : News h₀ L s.heap news) (hp : (d, o) ∈ news) (hd : o.IsDictOf knd kvs) (hkey : knd.is k key = true) (hl : valueAt kvs k = some v) (h : Q v { s with toks := s.toks + 1 })
    (hs : subscripted slice false (.ref d) key = operate [.ref d, key] (getItem (.ref d) key)) :
    wpAny (model prog w) A (subscriptTail value slice (.ref d) key) Q E s :=
  have hD := kda_dict N hp hd
  tail_any hD.typeIs slot_dict_getitem.lookup (wpAny_getItem_of hkey hD.mapOf hl h) hs
theorem RowIs.leave {h₀ h g : Heap} {L : Addr} {lt : List (Addr × Obj)} (hg : ∀ b o, h.get? b = some o → b ∉ lt.map (·.1) → g.get? b = some o) (N : News h₀ L h lt) (hl : ∀ p ∈ lt, leads p.2 = false) {q : Row} {c : Cmd} (h : RowIs h q c) : RowIs g q c := by
  cases c with
  | asg x t =>
    obtain ⟨h1, tg, ve, k1, k2, k3, h2, h3, h4⟩ := h
    exact ⟨h1, tg, ve, k1, k2, k3, h2, hg _ _ h3 (not_in N h3 rfl hl), h4.leave hg N hl⟩
  | iff x n =>
    obtain ⟨h1, b, c, v, k1, k2, k3, k4, k5, h2, h3, h4, h5⟩ := h
    exact ⟨h1, b, c, v, k1, k2, k3, k4, k5, h2, hg _ _ h3 (not_in N h3 rfl hl), hg _ _ h4 (not_in N h4 rfl hl), h5.leave hg N hl⟩
  | on => exact h
  | fin => exact h
theorem frU_start {v f : Value} {l : List (Str × Value)} (hl : l.lookup (Str.ofString "found") = none) (y : Str) : (if y = Str.ofString "at" then some v else if y = Str.ofString "flow" then some f else l.lookup y) = frU none v ((Str.ofString "flow", f) :: l) y := by
  unfold frU
  by_cases h1 : y = Str.ofString "at"
  · simp only [if_pos h1]
  · by_cases h2 : y = Str.ofString "found"
    · subst h2
      rw [if_neg (by decide +kernel), if_neg (by decide +kernel), if_neg (by decide +kernel), if_pos rfl, hl]
    · by_cases h3 : y = Str.ofString "flow"
      · subst h3; rfl
      · simp only [if_neg h1, if_neg h2, if_neg h3, List.lookup_cons, beq_eq_false_iff_ne.mpr h3]
theorem ru_end {w : World} {r : Rw} {u₀ : Mv} {cs : List Cmd} {j k i : Nat} {e e' : St} {fv : List (Str × Value)} {rest all : List (Addr × Obj)} {h₀ h' : Heap} {L : Addr} {m' : Str → Option Value} {s₁ : Shared} {tk : Nat} {f? : Option Value} {ai : Int} {t : Tok} {c : Var → Addr} {td te : Var → Tok} {st : Int} {tst : Tok}
    (F : Fr h₀ L h' m') (N : News h₀ L h' all) (sub : ∀ p ∈ rest ++ lit w e (r.upd { u₀ with c := c, td := td, te := te, st := st, tst := tst }), p ∈ all) (hm : m' = frU f? (.int ai t) fv) (hi : ai = (i : Int)) (hr : RunsTo cs j e' k i e) (h1 : 0 ≤ st) (h2 : st + k ≤ 100) :
    TbEnd h₀ L (RuInv w r u₀ cs j e' fv rest k) [] s₁ { s₁ with heap := h', toks := tk } := by
  subst hi
  exact ⟨h', tk, m', all, _, rfl, F, N, sub, fun _ h => (nomatch h), fun _ h => (nomatch h), f?, i, t, e, c, td, te, st, tst, hm, rfl, hr, h1, h2⟩
theorem i63 {i n : Nat} (h : i < n) (s : n ≤ 101) : (i : Int) < 2 ^ 63 := by lia
theorem st0 {st : Int} (h : 0 ≤ st) : 0 ≤ st + 1 := by lia
theorem st1 {st : Int} {k : Nat} (h : st + ((k + 1 : Nat) : Int) ≤ 100) : st + 1 + (k : Int) ≤ 100 := by lia
theorem leads_refs (rs : List Row) (ln : Nat) : leads (lstN (rs.map fun q => .ref q.r) ln) = false := by
  cases rs <;> rfl
theorem rowy_refs (rs : List Row) (ln : Nat) : rowy (lstN (rs.map fun q => .ref q.r) ln) = false := by
  cases rs <;> rfl
set_option maxHeartbeats 8000000 in
theorem rununit_ok (w : World) (e : St) (r : Rw) (u : Mv) (ok : Rok w r) (sep : Sep r) {oh ofl : Obj} {stKvs : List (Str × Value)} (hoh : oh.IsDictOf (PySem.strKind PySem.Challenge.rw_zu0017_01.row.prog w) stKvs) (hlo : (u.hd == sysModules) = false)
    (hst : valueAt stKvs (Str.ofString "assign") = some (.ref 533)) (hst2 : valueAt stKvs (Str.ofString "end") = some (.ref 645)) (hst3 : valueAt stKvs (Str.ofString "if") = some (.ref 603)) (hst4 : valueAt stKvs (Str.ofString "endif") = some (.ref 617))
    (hofl : ofl.IsDictOf (PySem.strKind PySem.Challenge.rw_zu0017_01.row.prog w) []) (hfo : (u.fl == sysModules) = false) (h0 : u.st = 0) (s : Shared) {un' du stl : Addr} {qu : Un} {ln : Nat} {ks : Tok} {rs : List Row} {cm : List Cmd} {pa pb : Nat} (sh : Shape rs pa pb) (hlen : cm.length = rs.length)
    (hrs : ∀ (i : Nat) (q : Row) (c : Cmd), rs[i]? = some q → cm[i]? = some c → RowIs s.heap q c) (hra : ∀ q ∈ rs, RowAt s.heap q) {e' : St} {k₀ : Nat} (hk : k₀ ≤ 50) (hrun : RunsTo cm pb e' k₀ 0 e)
    (offR : OffR r [(u.hd, oh), (u.fl, ofl), (un', instObj 698 du), (du, unitD w qu stl), (stl, lstN (rs.map fun q => .ref q.r) ln)]) (offF : ∀ p ∈ [(u.hd, oh), (un', instObj 698 du), (du, unitD w qu stl), (stl, lstN (rs.map fun q => .ref q.r) ln)] ++ lit w e (r.upd u), @Ne Nat p.1 u.fl) :
    Ends w 512 120 [.ref r.run, .ref un', .int 0 ks] s e r u [(u.hd, oh), (u.fl, ofl), (un', instObj 698 du), (du, unitD w qu stl), (stl, lstN (rs.map fun q => .ref q.r) ln)] (fun e'' => e' = e'') := by
  have sep' := sep
  have ok' : Rok w (r.upd u) := ⟨ok.e, ok.el, ok.o, ok.ol, ok.f, ok.fl⟩
  have hsm := sh.small
  have hsz : (((rs.map fun q => Value.ref q.r).toArray.size : Nat) : Int) = (rs.length : Int) := by simp
  intro loose mean mg mb dp un gd cn cs a ccd cl outer A₀ base h₀ L m Q E C N hd hret
  obtain ⟨sp1, sp2, sp3, sp4, sp5, sp6, sp7, sp8⟩ := sep
  have ⟨oke, okel, oko, okol, okf, okfl⟩ := ok
  have hl : ∀ p ∈ [(u.hd, oh), (u.fl, ofl), (un', instObj 698 du), (du, unitD w qu stl), (stl, lstN (rs.map fun q => .ref q.r) ln)] ++ lit w e (r.upd u), leads p.2 = false := List.forall_mem_append.mpr ⟨fmc (leads_dict hoh) ((fmc (leads_dict hofl) ((fmc (rfl) ((fmc (rfl) ((fmc (leads_refs _ _) (List.forall_mem_nil _))))))))), lit_leads ok'⟩
  have hw : ∀ p ∈ [(u.hd, oh), (u.fl, ofl), (un', instObj 698 du), (du, unitD w qu stl), (stl, lstN (rs.map fun q => .ref q.r) ln)] ++ lit w e (r.upd u), rowy p.2 = false := List.forall_mem_append.mpr ⟨fmc (rowy_dict hoh) ((fmc (rowy_dict hofl) ((fmc (rfl) ((fmc (rfl) ((fmc (rowy_refs _ _) (List.forall_mem_nil _))))))))), lit_rowy ok'⟩
  w_top off
  have X0 := C.X; revert X0; k_fill; intro X0
  (refine wpAny_call ?_; k_dflt (refine' enterT _ ?k1 ?k2 ?k3 ?k4 ?k5 ?kA ?kF ?kK ?k6 ?k7 ?k8 ?k9 ?kB ?_ ?c2 ?c3 ?c4 ?c5; (case kA => exact rfl); (case kF => exact rfl); (case kK => exact Cx.k (by assumption)); (case k1 => exact Cx.B (by assumption)); (case k2 => exact Cx.F (by assumption)); (case k3 => exact Cx.X (by assumption)); (case k4 => exact N); (case k5 => exact Cx.T (by assumption)); (case k6 => k_is); (case k7 => k_is); (case k8 => k_room); (case k9 => exact BindsTo.of_eq rfl); (case c5 => decide); (case kB => exact locs rfl); (case c2 => exact rfl); (case c3 => exact rfl); (case c4 => exact rfl); k_whole))
  intro g' L' h' hg FG' F' N' B' X' T'
  replace hra : ∀ q ∈ rs, RowAt g' q := fun q hq => ⟨hg _ _ (hra q hq).1 (not_in2 N (hra q hq).1 rfl hw), hg _ _ (hra q hq).2 (not_in2 N (hra q hq).2 rfl hl)⟩
  replace hrs : ∀ (i : Nat) (q : Row) (c : Cmd), rs[i]? = some q → cm[i]? = some c → RowIs g' q c := fun i q c h1 h2 => (hrs i q c h1 h2).leave hg N hl
  clear hl hw
  rw [lit_c] at N'
  dsimp only [List.cons_append, List.nil_append] at N'
  (try dsimp only)
  (with_reducible show wpAny _ _ _ _ _ _)
  k_fold
  k_with_none
  k_with "k_room" => (((try simp only [depth_mark, depth_under_make, depth_under_kw, depth_in1, depth_deeper, depth_caller]); (try dsimp only [ktrTop]); (try simp only [recursionLimit]); (first | exact rmk (by assumption) (by exact Nat.le_of_ble_eq_true rfl) | exact rmk1 (by assumption) (by exact Nat.le_of_ble_eq_true rfl) | exact rmk2 (by assumption) (by exact Nat.le_of_ble_eq_true rfl) | exact rmk3 (by assumption) (by exact Nat.le_of_ble_eq_true rfl) | exact rmk4 (by assumption) (by exact Nat.le_of_ble_eq_true rfl) | exact rmk0 (by assumption) | omega)))
  k_with "k_mem" => ((change (_ ∈ (_ : List (Addr × Obj))); ktr_member))
  k_with "k_mem" => (((change (_ ∈ ((_ ++ _) : List (Addr × Obj)))); first | (refine List.mem_append.mpr (Or.inl ?_); k_mem) | (refine List.mem_append.mpr (Or.inr ?_); k_mem)))
  k_with "binaryOp LShift int int" => (((refine lshift_int_small (by decide) (by decide) (by decide) ?_); rw [show ((1:Int) * 2 ^ ((32:Int) - 1).toNat) = 2147483648 from rfl]))
  k_with "tb_start" => (first | exact UpdN.head | (refine' UpdN.tail ?b; (case b => tb_start)))
  k_with "tb_rel" => (first | exact trivial | exact List.forall_mem_nil _ | (refine fmc (?a) (?b); (case a => first | (refine Or.inl ?_; k_cls) | (refine Or.inr ?_; assumption)); (case b => tb_rel)) | (refine And.intro ?a ?b; (case a => first | (refine Or.inl ?_; k_cls) | (refine Or.inr ?_; assumption)); (case b => tb_rel)))
  k_with "k_upd" => ((refine' UpdN.updS ?u9 ?n9 ?c9; (case u9 => tb_start); (case n9 => k_asm); (case c9 => tb_rel)))
  k_with "storeName" => (k_dflt (refine' storeX_any ?F ?N ?_ ?a ?b; (case F => k_asm); (case N => k_asm); (case a => rfl); (case b => rfl); k_whole); intro h' tk' F' N'; (try k_sweep))
  k_with "eval Call Name cons nil" => (refine Call_ ?_)
  k_with "eval Call Attribute cons nil" => (refine MethodCall_ ?_)
  k_with "spliced" => (first | ((with_reducible show wpAny _ _ (spliced (backTo _ (starEach (PySem.Expr.Name _ _ :: _) _))) _ _ _); k_dflt (refine' args_loc ?F ?v ?a ?b ?c ?_; (case F => k_asm); (case a => rfl); (case b => rfl); (case v => rfl); (case c => decide))) | ((with_reducible show wpAny _ _ (spliced (backTo _ (starEach (PySem.Expr.Constant (Const.int _) _ _ :: _) _))) _ _ _); refine args_int ?_) | ((with_reducible show wpAny _ _ (spliced (backTo _ (starEach (PySem.Expr.Constant (Const.str _) _ _ :: _) _))) _ _ _); refine args_str ?_))
  k_with "eval Attribute Name" => (k_dflt (refine' attr_loc ?F ?v ?a ?b ?c ?_; (case F => k_asm); (case a => rfl); (case b => rfl); (case v => rfl); (case c => decide)))
  k_with "eval Subscript" => (first | ((with_reducible show wpAny _ _ (eval (PySem.Expr.Subscript (PySem.Expr.Name _ _) (PySem.Expr.Constant (Const.int _) _ _) _) _) _ _ _); k_dflt (refine' sub_loc_int ?F ?v ?a ?b ?c ?_; (case F => k_asm); (case a => rfl); (case b => rfl); (case v => rfl); (case c => decide))) | ((with_reducible show wpAny _ _ (eval (PySem.Expr.Subscript (PySem.Expr.Name _ _) _ _) _) _ _ _); k_dflt (refine' sub_loc ?F ?v ?a ?b ?c ?_; (case F => k_asm); (case a => rfl); (case b => rfl); (case v => rfl); (case c => decide))))
  k_with "compareOp NotIn str ref" => (k_dflt (refine kdg_notin (knd := PySem.strKind _ _) (by k_asm) (by k_mem) hofl hfo (strKind_is _ _ _ _) false (by rfl) ?_); (try dsimp only [Bool.not_true, Bool.not_false]))
  k_with "setItem ref str ref" => (k_dflt (refine' kda_set (knd := PySem.strKind _ _) ?F ?N ?U hofl (strKind_is _ _ _ _) ?z ?_; (case F => k_asm); (case N => k_asm); (case U => exact UpdF.tail af1 (UpdF.tail af2 (UpdF.tail af3 (UpdF.tail af4 (UpdF.tail (offF _ (.head _)) (UpdF.head fun p hp => offF p (.tail _ hp))))))); (case z => exact Nat.zero_le _)); intro h9' ofl9 F9 N9 hfl9; (try dsimp only at N9))
  k_with "call ref cons nil" => (k_dflt (refine flow_use (by k_asm) (by k_asm) (by k_asm) (by k_asm) (by exact rfl) (by k_asm) (flow_ok w _ sh ((by k_asm : News _ _ _ _) (stl, lstN (rs.map fun q => .ref q.r) ln) (by k_mem)).1 (fun q hq => ⟨keep_at (hra q hq).1 (by first | exact Fr.keep (by k_asm) | (intro b9 o9 q9; refine Fr.keep (by k_asm) b9 o9 ?_; exact Fr.keep (by k_asm) b9 o9 q9) | (intro b9 o9 q9; refine Fr.keep (by k_asm) b9 o9 ?_; refine Fr.keep (by k_asm) b9 o9 ?_; exact Fr.keep (by k_asm) b9 o9 q9)), keep_at (hra q hq).2 (by first | exact Fr.keep (by k_asm) | (intro b9 o9 q9; refine Fr.keep (by k_asm) b9 o9 ?_; exact Fr.keep (by k_asm) b9 o9 q9) | (intro b9 o9 q9; refine Fr.keep (by k_asm) b9 o9 ?_; refine Fr.keep (by k_asm) b9 o9 ?_; exact Fr.keep (by k_asm) b9 o9 q9))⟩)) (by ((try simp only [depth_mark, depth_deeper]); (try dsimp only [ktrTop]); (first | exact rmk (by assumption) (by exact Nat.le_of_ble_eq_true rfl) | exact rmk1 (by assumption) (by exact Nat.le_of_ble_eq_true rfl) | exact rmk2 (by assumption) (by exact Nat.le_of_ble_eq_true rfl) | exact rmk3 (by assumption) (by exact Nat.le_of_ble_eq_true rfl) | exact rmk4 (by assumption) (by exact Nat.le_of_ble_eq_true rfl) | exact rmk0 (by assumption) | omega))) ?_); intro fw fd qf o1 o4 kvs h9' tk9 F9 N9 ap9 i1 l1 i4 l4 hC; obtain ⟨af1, af2, af3, af4⟩ := ap9 (u.fl, ofl) (by k_mem); have ad := ap9 (r.dr, _) (by k_mem); have an := ap9 (r.nums, _) (by k_mem); clear ap9)
  iterate 52 (first | (k_unfold; (try dsimp only)) | (k_end; wrow_close) | walk1 | (dsimp only; walk1) | (leave1; (try dsimp only)) | fail "no step")
  have hoffR : OffR r [(fw, instObj 426 fd), (fd, flowD w qf), (qf.d4, o4), (qf.d1, o1), (u.hd, oh), (u.fl, ofl9), (un', instObj 698 du), (du, unitD w qu stl), (stl, lstN (rs.map fun q => .ref q.r) ln)] :=
    (fmc (⟨ad.1, an.1⟩) ((fmc (⟨ad.2.1, an.2.1⟩) ((fmc (⟨ad.2.2.1, an.2.2.1⟩) ((fmc (⟨ad.2.2.2, an.2.2.2⟩) ((fmc (offR _ (.head _)) ((fmc (offR (u.fl, ofl) (.tail _ (.head _))) (fun p hp => offR p (.tail _ (.tail _ hp))))))))))))))
  have hhn : @Ne Nat u.hd r.nums := (offR _ (.head _)).2
  iterate 5 (first | (k_unfold; (try dsimp only)) | (k_end; wrow_close) | walk1 | (dsimp only; walk1) | (leave1; (try dsimp only)) | fail "no step")
  (with_reducible refine' while_inv (RuInv w r u cm pb e' [(Str.ofString "flow", .ref fw), (Str.ofString "start", .int 0 ks), (Str.ofString "unit", .ref un'), (Str.ofString "run", .ref r.run)] [(fw, instObj 426 fd), (fd, flowD w qf), (qf.d4, o4), (qf.d1, o1), (u.hd, oh), (u.fl, ofl9), (un', instObj 698 du), (du, unitD w qu stl), (stl, lstN (rs.map fun q => .ref q.r) ln)]) k₀ ?wF (news := [(fw, instObj 426 fd), (fd, flowD w qf), (qf.d4, o4), (qf.d1, o1), (u.hd, oh), (u.fl, ofl9), (un', instObj 698 du), (du, unitD w qu stl), (stl, lstN (rs.map fun q => .ref q.r) ln)] ++ lit w e (r.upd u)) ?wN ?wJ ?w0 ?wt ?wE)
  case wF => k_asm
  case wN => exact news_sub (by k_asm) (fun q hq => hq)
  case wE => passes_own
  case w0 => (rintro m nx ⟨f?, i, t, e, c, td, te, st, tst, -, -, hr, -, -⟩; cases hr)
  case wJ => exact ⟨none, 0, ks, e, u.c, u.td, u.te, u.st, u.tst, funext (frU_start rfl), rfl, hrun, by omega, by omega⟩
  rintro k m₁ nx h tk ⟨f?, i, ti, e, c, td, te, st, tst, rfl, rfl, hrun, hst0, hst1⟩ F5 N5
  (with_reducible show wpAny _ _ _ _ _ _)
  k_fold
  have hcx : ∃ c, cm[i]? = some c := by cases hrun <;> exact ⟨_, by assumption⟩
  have hi : i < rs.length := by
    obtain ⟨c, hc⟩ := hcx
    rw [← hlen]
    exact (List.getElem?_eq_some_iff.mp hc).1
  (refine foldP ?_; intro P8)
  obtain ⟨q9, hq⟩ : ∃ q, rs[i]? = some q := ⟨rs[i], List.getElem?_eq_getElem hi⟩
  obtain ⟨hr9, hg9⟩ := hra q9 (List.mem_of_getElem? hq)
  k_unfold
  replace hr9 : IsTup g' q9.r [.int 0 q9.k1, .ref q9.s, .int 1 q9.k2].toArray := ⟨_, hr9, rfl, 0, rfl⟩
  have mk9 : Mark e { u with c := c, td := td, te := te, st := st, tst := tst } := rfl
  rw [lit_c] at N5
  dsimp only [List.cons_append, List.nil_append] at N5
  k_with "call builtin:len cons nil" => (k_dflt ((refine len_list ⟨_, ((by k_asm : News _ _ _ _) (stl, lstN (rs.map fun q => .ref q.r) ln) (by k_mem)).1, rfl, ln, rfl⟩ (by rw [hsz]; exact i63 (Nat.lt_succ_self _) (Nat.succ_le_succ hsm)) ?_); rw [hsz]))
  k_with "WhlIf" => (refine WhlIf.yes (decide_eq_true (by omega)) ?_)
  k_with "subscriptTail Attribute Name Name ref int" => (k_dflt (refine list_any (items := (rs.map fun q => Value.ref q.r).toArray) ⟨_, ((by k_asm : News _ _ _ _) (stl, lstN (rs.map fun q => .ref q.r) ln) (by k_mem)).1, rfl, ln, rfl⟩ (Int.natCast_nonneg _) (i63 hi (Nat.le_succ_of_le hsm)) (row_at hq) ?_ (by with_unfolding_all rfl)))
  k_with "subscriptTail Subscript Attribute Name Constant ref int" => (k_dflt (refine item_tupleT (IsTup.keeps hr9 (by first | exact Fr.keep (by k_asm) | (intro b9 o9 q9; refine Fr.keep (by k_asm) b9 o9 ?_; exact Fr.keep (by k_asm) b9 o9 q9) | (intro b9 o9 q9; refine Fr.keep (by k_asm) b9 o9 ?_; refine Fr.keep (by k_asm) b9 o9 ?_; exact Fr.keep (by k_asm) b9 o9 q9))) (by decide) (by decide) rfl rfl ?_))
  k_with "call builtin:isinstance cons nil" => (k_dflt (first | refine IsiPair.int_tuple ?_ | refine IsiPair.tuple_tuple ((by k_asm : News _ _ _ _) (_, _) (by k_mem)).1 rfl ?_))
  k_with "call ref cons nil" => ((with_reducible rename Mark _ _ => mk9); (k_dflt (refine' Works.use mk9 hoffR ?wB ?wF ?wX ?wT ?wk ?wN ?wD ?wsub ?wsux ?whd ?_); (case wN => k_asm); (case wD => k_dflt (exact step_ok w _ r _ ok sep' (by (try dsimp only); omega) (by (try dsimp only); omega) _)); (case wB => k_asm); (case wF => k_asm); (case wX => k_asm); (case wT => k_asm); (case wk => exact rfl); (case wsub => k_dflt (first | exact fun q hq => hq | exact fun q hq => .tail _ hq | exact fun q hq => .tail _ (.tail _ hq) | exact fun q hq => .tail _ (.tail _ (.tail _ hq)) | exact fun q hq => .tail _ (.tail _ (.tail _ (.tail _ hq))))); (case wsux => k_dflt (first | exact List.forall_mem_nil _ | exact fmc (by k_mem) (List.forall_mem_nil _))); (case whd => ((try simp only [depth_mark, depth_deeper]); (try dsimp only [ktrTop]); (try dsimp only [Ex.depth]); (first | exact rmk (by assumption) (by exact Nat.le_of_ble_eq_true rfl) | exact rmk1 (by assumption) (by exact Nat.le_of_ble_eq_true rfl) | exact rmk2 (by assumption) (by exact Nat.le_of_ble_eq_true rfl) | exact rmk3 (by assumption) (by exact Nat.le_of_ble_eq_true rfl) | exact rmk4 (by assumption) (by exact Nat.le_of_ble_eq_true rfl) | exact rmk0 (by assumption) | omega))); intro v9 h9' tk9 e9' u9' F9 N9 kp9 e9 mk9'); clear mk9; obtain ⟨ee9, t9, ue9⟩ := e9; subst ee9; subst ue9; rw [lit_c] at N9; dsimp only [List.cons_append, List.nil_append] at N9)
  iterate 42 (first | (k_unfold; (try dsimp only)) | (k_end; wrow_close) | walk1 | (dsimp only; walk1) | (leave1; (try dsimp only)) | fail "no step")
  cases hrun with
  | @asg _ _ _ x9 tx9 hc hfit hdep hrun =>
    (refine foldP ?_; intro P9)
    obtain ⟨hw9, tg, ve, k1, k2, k3, hvs, ht9, hv9⟩ := hrs i q9 _ hq hc
    k_unfold
    rw [hw9, hvs] at hg9
    k_with "call ref cons nil" => ((with_reducible rename Mark _ _ => mk9); first | (k_dflt (refine' Works.use mk9 hoffR ?wB ?wF ?wX ?wT ?wk ?wN ?wD ?wsub ?wsux ?whd ?_); (case wN => k_asm); (case wD => k_dflt (exact step_ok w _ r _ ok sep' (by (try dsimp only); omega) (by (try dsimp only); omega) _)); (case wB => k_asm); (case wF => k_asm); (case wX => k_asm); (case wT => k_asm); (case wk => exact rfl); (case wsub => k_dflt (first | exact fun q hq => hq | exact fun q hq => .tail _ hq | exact fun q hq => .tail _ (.tail _ hq) | exact fun q hq => .tail _ (.tail _ (.tail _ hq)) | exact fun q hq => .tail _ (.tail _ (.tail _ (.tail _ hq))))); (case wsux => k_dflt (first | exact List.forall_mem_nil _ | exact fmc (by k_mem) (List.forall_mem_nil _))); (case whd => ((try simp only [depth_mark, depth_deeper]); (try dsimp only [ktrTop]); (try dsimp only [Ex.depth]); (first | exact rmk (by assumption) (by exact Nat.le_of_ble_eq_true rfl) | exact rmk1 (by assumption) (by exact Nat.le_of_ble_eq_true rfl) | exact rmk2 (by assumption) (by exact Nat.le_of_ble_eq_true rfl) | exact rmk3 (by assumption) (by exact Nat.le_of_ble_eq_true rfl) | exact rmk4 (by assumption) (by exact Nat.le_of_ble_eq_true rfl) | exact rmk0 (by assumption) | omega))); intro v9 h9' tk9 e9' u9' F9 N9 kp9 e9 mk9'); clear mk9; obtain ⟨ee9, t9, ue9⟩ := e9; subst ee9; subst ue9; rw [lit_c] at N9; dsimp only [List.cons_append, List.nil_append] at N9 | (k_dflt (refine' Works.use mk9 hoffR ?wB ?wF ?wX ?wT ?wk ?wN ?wD ?wsub ?wsux ?whd ?_); (case wN => k_asm); (case wD => (k_dflt (refine' execassign_ok w _ r _ ok sep' ?xa ?xb ?xc hst x9 tx9 ?xd _ ?xe ?xf ?xg ?xh ?xi); (case xg => exact keep_at hg9 (by first | exact Fr.keep (by k_asm) | (intro b9 o9 q9; refine Fr.keep (by k_asm) b9 o9 ?_; exact Fr.keep (by k_asm) b9 o9 q9) | (intro b9 o9 q9; refine Fr.keep (by k_asm) b9 o9 ?_; refine Fr.keep (by k_asm) b9 o9 ?_; exact Fr.keep (by k_asm) b9 o9 q9))); (case xa => exact hoh); (case xb => exact hlo); (case xc => exact hhn); (case xd => exact hfit); (case xe => omega); (case xf => omega); (case xh => exact keep_at ht9 (by first | exact Fr.keep (by k_asm) | (intro b9 o9 q9; refine Fr.keep (by k_asm) b9 o9 ?_; exact Fr.keep (by k_asm) b9 o9 q9) | (intro b9 o9 q9; refine Fr.keep (by k_asm) b9 o9 ?_; refine Fr.keep (by k_asm) b9 o9 ?_; exact Fr.keep (by k_asm) b9 o9 q9))); (case xi => exact ExAt.keeps (by first | exact Fr.keep (by k_asm) | (intro b9 o9 q9; refine Fr.keep (by k_asm) b9 o9 ?_; exact Fr.keep (by k_asm) b9 o9 q9) | (intro b9 o9 q9; refine Fr.keep (by k_asm) b9 o9 ?_; refine Fr.keep (by k_asm) b9 o9 ?_; exact Fr.keep (by k_asm) b9 o9 q9)) hv9))); (case wB => k_asm); (case wF => k_asm); (case wX => k_asm); (case wT => k_asm); (case wk => exact rfl); (case wsub => k_dflt (first | exact fun q hq => hq | exact fun q hq => .tail _ hq | exact fun q hq => .tail _ (.tail _ hq) | exact fun q hq => .tail _ (.tail _ (.tail _ hq)) | exact fun q hq => .tail _ (.tail _ (.tail _ (.tail _ hq))))); (case wsux => k_dflt (first | exact fmc (.tail _ (.tail _ (.tail _ (.tail _ (.head _))))) (List.forall_mem_nil _))); (case whd => ((try simp only [depth_mark, depth_deeper]); (try dsimp only [ktrTop]); (try dsimp only [Ex.depth]); (first | exact rmk (by assumption) (by exact Nat.le_of_ble_eq_true rfl) | exact rmk1 (by assumption) (by exact Nat.le_of_ble_eq_true rfl) | exact rmk2 (by assumption) (by exact Nat.le_of_ble_eq_true rfl) | exact rmk3 (by assumption) (by exact Nat.le_of_ble_eq_true rfl) | exact rmk4 (by assumption) (by exact Nat.le_of_ble_eq_true rfl) | exact rmk0 (by assumption) | omega))); intro v9 h9' tk9 e9' u9' F9 N9 kp9 e9 mk9'); clear mk9; obtain ⟨ee9, ⟨k9, ve9⟩, c9, td9, te9, ue9⟩ := e9; subst ee9; subst ve9; subst ue9; rw [lit_c] at N9; dsimp only [List.cons_append, List.nil_append] at N9)
    repeat (first | (k_unfold; (try dsimp only)) | (k_end; wrow_close) | walk1 | (dsimp only; walk1) | (leave1; (try dsimp only)) | fail "no step")
    · exact ru_end (c := c9) (td := td9) (te := te9) (st := st + 1) (tst := t9) (by k_asm) (by k_asm) (by first | exact fun q hq => hq | exact fun q hq => .tail _ hq | exact fun q hq => .tail _ (.tail _ hq) | exact fun q hq => .tail _ (.tail _ (.tail _ hq)) | exact fun q hq => .tail _ (.tail _ (.tail _ (.tail _ hq)))) (funext frU_next) rfl hrun (st0 hst0) (st1 hst1)
    · exfalso
      omega
  | @yes _ _ _ x9 n9 hc hle hrun =>
    (refine foldP ?_; intro P9)
    obtain ⟨hw9, b9, c8, v8, k1, k2, k3, k4, k5, hvs, hb9, hc9, hv9⟩ := hrs i q9 _ hq hc
    k_unfold
    rw [hw9, hvs] at hg9
    have hs9 : IsTup g' q9.s [.str (Str.ofString "if") q9.k3, .ref b9].toArray := ⟨_, hg9, rfl, 0, rfl⟩
    have h99 : IsTup g' b9 [.str (Str.ofString "le") k1, .int 4 k2, .ref c8, v8].toArray := ⟨_, hb9, rfl, 0, rfl⟩
    k_with "compareOp NotIn str ref" => (k_dflt (first | refine kdg_notin (knd := PySem.strKind _ _) (by k_asm) (by k_mem) hoh hlo (strKind_is _ _ _ _) true (by rw [hst3]; rfl) ?_ | refine kdg_notin (knd := PySem.strKind _ _) (by k_asm) (by k_mem) hfl9 hfo (strKind_is _ _ _ _) true (by rfl) ?_); (try dsimp only [Bool.not_true, Bool.not_false]))
    k_with "getItem ref str" => (k_dflt (first | refine wpAny_getItem_of (strKind_is _ _ _ _) (kda_dict (by k_asm) (by k_mem) hoh).mapOf hst3 ?_ | refine wpAny_getItem_of (strKind_is _ _ _ _) (kda_dict (by k_asm) (by k_mem) hfl9).mapOf (show valueAt _ _ = some (Value.ref fw) by rfl) ?_))
    k_with "subscriptTail Name Constant ref int" => (k_dflt (first | refine item_tupleT (l := [.str (Str.ofString "if") q9.k3, .ref b9]) (IsTup.keeps hs9 (by first | exact Fr.keep (by k_asm) | (intro b9 o9 q9; refine Fr.keep (by k_asm) b9 o9 ?_; exact Fr.keep (by k_asm) b9 o9 q9) | (intro b9 o9 q9; refine Fr.keep (by k_asm) b9 o9 ?_; refine Fr.keep (by k_asm) b9 o9 ?_; exact Fr.keep (by k_asm) b9 o9 q9))) (by decide) (by decide) rfl rfl ?_ ))
    k_with "call ref cons nil" => ((with_reducible rename Mark _ _ => mk9); first | (k_dflt (refine' Works.use mk9 hoffR ?wB ?wF ?wX ?wT ?wk ?wN ?wD ?wsub ?wsux ?whd ?_); (case wN => k_asm); (case wD => k_dflt (exact step_ok w _ r _ ok sep' (by (try dsimp only); omega) (by (try dsimp only); omega) _)); (case wB => k_asm); (case wF => k_asm); (case wX => k_asm); (case wT => k_asm); (case wk => exact rfl); (case wsub => k_dflt (first | exact fun q hq => hq | exact fun q hq => .tail _ hq | exact fun q hq => .tail _ (.tail _ hq) | exact fun q hq => .tail _ (.tail _ (.tail _ hq)) | exact fun q hq => .tail _ (.tail _ (.tail _ (.tail _ hq))))); (case wsux => k_dflt (first | exact List.forall_mem_nil _ | exact fmc (by k_mem) (List.forall_mem_nil _))); (case whd => ((try simp only [depth_mark, depth_deeper]); (try dsimp only [ktrTop]); (try dsimp only [Ex.depth]); (first | exact rmk (by assumption) (by exact Nat.le_of_ble_eq_true rfl) | exact rmk1 (by assumption) (by exact Nat.le_of_ble_eq_true rfl) | exact rmk2 (by assumption) (by exact Nat.le_of_ble_eq_true rfl) | exact rmk3 (by assumption) (by exact Nat.le_of_ble_eq_true rfl) | exact rmk4 (by assumption) (by exact Nat.le_of_ble_eq_true rfl) | exact rmk0 (by assumption) | omega))); intro v9 h9' tk9 e9' u9' F9 N9 kp9 e9 mk9'); clear mk9; obtain ⟨ee9, t9, ue9⟩ := e9; subst ee9; subst ue9; rw [lit_c] at N9; dsimp only [List.cons_append, List.nil_append] at N9 | (k_dflt (refine' Does.use ?wB ?wF ?wX ?wT ?wk ?wN ?wD ?wsub ?whd ?_); (case wN => k_asm); (case wD => (k_dflt (refine' evle_ok w e (r.upd { u with c := c, td := td, te := te, st := st + 1, tst := t9 }) ?zo x9 n9 _ ?za ?zb ?zc); (case zo => exact ⟨ok.e, ok.el, ok.o, ok.ol, ok.f, ok.fl⟩); (case za => exact keep_at hb9 (by first | exact Fr.keep (by k_asm) | (intro b9 o9 q9; refine Fr.keep (by k_asm) b9 o9 ?_; exact Fr.keep (by k_asm) b9 o9 q9) | (intro b9 o9 q9; refine Fr.keep (by k_asm) b9 o9 ?_; refine Fr.keep (by k_asm) b9 o9 ?_; exact Fr.keep (by k_asm) b9 o9 q9))); (case zb => exact keep_at hc9 (by first | exact Fr.keep (by k_asm) | (intro b9 o9 q9; refine Fr.keep (by k_asm) b9 o9 ?_; exact Fr.keep (by k_asm) b9 o9 q9) | (intro b9 o9 q9; refine Fr.keep (by k_asm) b9 o9 ?_; refine Fr.keep (by k_asm) b9 o9 ?_; exact Fr.keep (by k_asm) b9 o9 q9))); (case zc => exact ExAt.keeps (by first | exact Fr.keep (by k_asm) | (intro b9 o9 q9; refine Fr.keep (by k_asm) b9 o9 ?_; exact Fr.keep (by k_asm) b9 o9 q9) | (intro b9 o9 q9; refine Fr.keep (by k_asm) b9 o9 ?_; refine Fr.keep (by k_asm) b9 o9 ?_; exact Fr.keep (by k_asm) b9 o9 q9)) hv9))); (case wB => k_asm); (case wF => k_asm); (case wX => k_asm); (case wT => k_asm); (case wk => exact rfl); (case wsub => k_dflt (first | exact fun q hq => .tail _ (.tail _ (.tail _ (.tail _ (.tail _ (.tail _ (.tail _ (.tail _ (.tail _ (hq))))))))) | exact fun q hq => .tail _ (.tail _ (.tail _ (.tail _ (.tail _ (.tail _ (.tail _ (.tail _ (.tail _ (.tail _ (hq)))))))))) | exact fun q hq => .tail _ (.tail _ (.tail _ (.tail _ (.tail _ (.tail _ (.tail _ (.tail _ (.tail _ (.tail _ (.tail _ (hq))))))))))) | exact fun q hq => .tail _ (.tail _ (.tail _ (.tail _ (.tail _ (.tail _ (.tail _ (.tail _ (.tail _ (.tail _ (.tail _ (.tail _ (hq)))))))))))) | exact fun q hq => .tail _ (.tail _ (.tail _ (.tail _ (.tail _ (.tail _ (.tail _ (.tail _ (.tail _ (.tail _ (.tail _ (.tail _ (.tail _ (hq))))))))))))))); (case whd => ((try simp only [depth_mark, depth_deeper]); (try dsimp only [ktrTop]); (try dsimp only [Ex.depth]); (first | exact rmk (by assumption) (by exact Nat.le_of_ble_eq_true rfl) | exact rmk1 (by assumption) (by exact Nat.le_of_ble_eq_true rfl) | exact rmk2 (by assumption) (by exact Nat.le_of_ble_eq_true rfl) | exact rmk3 (by assumption) (by exact Nat.le_of_ble_eq_true rfl) | exact rmk4 (by assumption) (by exact Nat.le_of_ble_eq_true rfl) | exact rmk0 (by assumption) | omega))); intro v9 h9' tk9 F9 N9 kp9 e9; rw [decide_eq_true hle] at e9; subst e9))
    k_with "exec While Constant cons nil" => (k_dflt (refine whl_start 3 ?_))
    repeat (first | (k_unfold; (try dsimp only)) | (k_end; wrow_close) | walk1 | (dsimp only; walk1) | (leave1; (try dsimp only)) | fail "no step")
    · exact ru_end (c := c) (td := td) (te := te) (st := st + 1) (tst := t9) (by k_asm) (by k_asm) (by first | exact fun q hq => hq | exact fun q hq => .tail _ hq | exact fun q hq => .tail _ (.tail _ hq) | exact fun q hq => .tail _ (.tail _ (.tail _ hq)) | exact fun q hq => .tail _ (.tail _ (.tail _ (.tail _ hq)))) (funext frU_next) rfl hrun (st0 hst0) (st1 hst1)
    · exfalso
      omega
  | @no _ _ _ x9 n9 hc hle hrun =>
    (refine foldP ?_; intro P9)
    obtain ⟨hw9, b9, c8, v8, k1, k2, k3, k4, k5, hvs, hb9, hc9, hv9⟩ := hrs i q9 _ hq hc
    k_unfold
    rw [hw9, hvs] at hg9
    have hs9 : IsTup g' q9.s [.str (Str.ofString "if") q9.k3, .ref b9].toArray := ⟨_, hg9, rfl, 0, rfl⟩
    have h99 : IsTup g' b9 [.str (Str.ofString "le") k1, .int 4 k2, .ref c8, v8].toArray := ⟨_, hb9, rfl, 0, rfl⟩
    have iab := sh.ab
    have hia : i = pa := by
      rcases sh.at_ i q9 hq with ⟨_, _, h | h⟩ | ⟨h, _⟩ | ⟨_, h⟩
      · rw [hw9] at h; exact absurd h (by decide)
      · rw [hw9] at h; exact absurd h (by decide)
      · exact h
      · rw [hw9] at h; exact absurd h (by decide)
    have hpb : pb < rs.length := by rcases sh.n with h | h <;> omega
    obtain ⟨qb, hqb⟩ : ∃ q, rs[pb]? = some q := ⟨rs[pb], List.getElem?_eq_getElem hpb⟩
    obtain ⟨hrb, hgb⟩ := hra qb (List.mem_of_getElem? hqb)
    replace hrb : IsTup g' qb.r [.int 0 qb.k1, .ref qb.s, .int 1 qb.k2].toArray := ⟨_, hrb, rfl, 0, rfl⟩
    have hwb : qb.w = "endif" := by
      rcases sh.at_ pb qb hqb with ⟨_, h, _⟩ | ⟨h, _⟩ | ⟨_, h⟩
      · exact absurd rfl h
      · omega
      · exact h
    have hcb : ∃ c, cm[pb]? = some c := ⟨cm[pb], List.getElem?_eq_getElem (by omega)⟩
    obtain ⟨cb, hcb⟩ := hcb
    have hvb : qb.vs = [] := by
      have hh := hrs pb qb cb hqb hcb
      cases cb with
      | asg x t => have h7 := hh.1; rw [hwb] at h7; exact absurd h7 (by decide)
      | iff x n => have h7 := hh.1; rw [hwb] at h7; exact absurd h7 (by decide)
      | on => exact hh.2
      | fin => exact hh.2
    rw [hwb, hvb] at hgb
    have hsb : IsTup g' qb.s [.str (Str.ofString "endif") qb.k3].toArray := ⟨_, hgb, rfl, 0, rfl⟩
    obtain ⟨tn, hkv⟩ := hC hpb
    subst hkv
    have hnx : valueAt [((pa : Int), Value.int (pb : Int) tn)] (i : Int) = some (Value.int (pb : Int) tn) := by rw [hia]; simp [valueAt]
    k_with "subscriptTail Attribute Name Name ref int" => (k_dflt (first
      | refine list_any (items := (rs.map fun q => Value.ref q.r).toArray) ⟨_, ((by k_asm : News _ _ _ _) (stl, lstN (rs.map fun q => .ref q.r) ln) (by k_mem)).1, rfl, ln, rfl⟩ (Int.natCast_nonneg _) (i63 hi (Nat.le_succ_of_le hsm)) (row_at hq) ?_ (by with_unfolding_all rfl)
      | refine list_any (items := (rs.map fun q => Value.ref q.r).toArray) ⟨_, ((by k_asm : News _ _ _ _) (stl, lstN (rs.map fun q => .ref q.r) ln) (by k_mem)).1, rfl, ln, rfl⟩ (Int.natCast_nonneg _) (i63 hpb (Nat.le_succ_of_le hsm)) (row_at hqb) ?_ (by with_unfolding_all rfl)
      | refine dict_any (knd := PySem.intKind _ _) (by k_asm) (by k_mem) i1 (intKind_is _ _ _ _) hnx ?_ (by with_unfolding_all rfl)))
    k_with "subscriptTail Subscript Attribute Name Constant ref int" => (k_dflt (first | refine item_tupleT (IsTup.keeps hr9 (by first | exact Fr.keep (by k_asm) | (intro b9 o9 q9; refine Fr.keep (by k_asm) b9 o9 ?_; exact Fr.keep (by k_asm) b9 o9 q9) | (intro b9 o9 q9; refine Fr.keep (by k_asm) b9 o9 ?_; refine Fr.keep (by k_asm) b9 o9 ?_; exact Fr.keep (by k_asm) b9 o9 q9))) (by decide) (by decide) rfl rfl ?_ | refine item_tupleT (IsTup.keeps hrb (by first | exact Fr.keep (by k_asm) | (intro b9 o9 q9; refine Fr.keep (by k_asm) b9 o9 ?_; exact Fr.keep (by k_asm) b9 o9 q9) | (intro b9 o9 q9; refine Fr.keep (by k_asm) b9 o9 ?_; refine Fr.keep (by k_asm) b9 o9 ?_; exact Fr.keep (by k_asm) b9 o9 q9))) (by decide) (by decide) rfl rfl ?_))
    k_with "compareOp NotIn str ref" => (k_dflt (first | refine kdg_notin (knd := PySem.strKind _ _) (by k_asm) (by k_mem) hoh hlo (strKind_is _ _ _ _) true (by rw [hst3]; rfl) ?_ | refine kdg_notin (knd := PySem.strKind _ _) (by k_asm) (by k_mem) hfl9 hfo (strKind_is _ _ _ _) true (by rfl) ?_); (try dsimp only [Bool.not_true, Bool.not_false]))
    k_with "getItem ref str" => (k_dflt (first | refine wpAny_getItem_of (strKind_is _ _ _ _) (kda_dict (by k_asm) (by k_mem) hoh).mapOf hst3 ?_ | refine wpAny_getItem_of (strKind_is _ _ _ _) (kda_dict (by k_asm) (by k_mem) hfl9).mapOf (show valueAt _ _ = some (Value.ref fw) by rfl) ?_))
    k_with "subscriptTail Name Constant ref int" => (k_dflt (first | refine item_tupleT (l := [.str (Str.ofString "if") q9.k3, .ref b9]) (IsTup.keeps hs9 (by first | exact Fr.keep (by k_asm) | (intro b9 o9 q9; refine Fr.keep (by k_asm) b9 o9 ?_; exact Fr.keep (by k_asm) b9 o9 q9) | (intro b9 o9 q9; refine Fr.keep (by k_asm) b9 o9 ?_; refine Fr.keep (by k_asm) b9 o9 ?_; exact Fr.keep (by k_asm) b9 o9 q9))) (by decide) (by decide) rfl rfl ?_ | refine item_tupleT (l := [.str (Str.ofString "endif") qb.k3]) (IsTup.keeps hsb (by first | exact Fr.keep (by k_asm) | (intro b9 o9 q9; refine Fr.keep (by k_asm) b9 o9 ?_; exact Fr.keep (by k_asm) b9 o9 q9) | (intro b9 o9 q9; refine Fr.keep (by k_asm) b9 o9 ?_; refine Fr.keep (by k_asm) b9 o9 ?_; exact Fr.keep (by k_asm) b9 o9 q9))) (by decide) (by decide) rfl rfl ?_))
    k_with "call ref cons nil" => ((with_reducible rename Mark _ _ => mk9); first | (k_dflt (refine' Works.use mk9 hoffR ?wB ?wF ?wX ?wT ?wk ?wN ?wD ?wsub ?wsux ?whd ?_); (case wN => k_asm); (case wD => k_dflt (exact step_ok w _ r _ ok sep' (by (try dsimp only); omega) (by (try dsimp only); omega) _)); (case wB => k_asm); (case wF => k_asm); (case wX => k_asm); (case wT => k_asm); (case wk => exact rfl); (case wsub => k_dflt (first | exact fun q hq => hq | exact fun q hq => .tail _ hq | exact fun q hq => .tail _ (.tail _ hq) | exact fun q hq => .tail _ (.tail _ (.tail _ hq)) | exact fun q hq => .tail _ (.tail _ (.tail _ (.tail _ hq))))); (case wsux => k_dflt (first | exact List.forall_mem_nil _ | exact fmc (by k_mem) (List.forall_mem_nil _))); (case whd => ((try simp only [depth_mark, depth_deeper]); (try dsimp only [ktrTop]); (try dsimp only [Ex.depth]); (first | exact rmk (by assumption) (by exact Nat.le_of_ble_eq_true rfl) | exact rmk1 (by assumption) (by exact Nat.le_of_ble_eq_true rfl) | exact rmk2 (by assumption) (by exact Nat.le_of_ble_eq_true rfl) | exact rmk3 (by assumption) (by exact Nat.le_of_ble_eq_true rfl) | exact rmk4 (by assumption) (by exact Nat.le_of_ble_eq_true rfl) | exact rmk0 (by assumption) | omega))); intro v9 h9' tk9 e9' u9' F9 N9 kp9 e9 mk9'); clear mk9; obtain ⟨ee9, t9, ue9⟩ := e9; subst ee9; subst ue9; rw [lit_c] at N9; dsimp only [List.cons_append, List.nil_append] at N9 | (k_dflt (refine' Does.use ?wB ?wF ?wX ?wT ?wk ?wN ?wD ?wsub ?whd ?_); (case wN => k_asm); (case wD => (k_dflt (refine' evle_ok w e (r.upd { u with c := c, td := td, te := te, st := st + 1, tst := t9 }) ?zo x9 n9 _ ?za ?zb ?zc); (case zo => exact ⟨ok.e, ok.el, ok.o, ok.ol, ok.f, ok.fl⟩); (case za => exact keep_at hb9 (by first | exact Fr.keep (by k_asm) | (intro b9 o9 q9; refine Fr.keep (by k_asm) b9 o9 ?_; exact Fr.keep (by k_asm) b9 o9 q9) | (intro b9 o9 q9; refine Fr.keep (by k_asm) b9 o9 ?_; refine Fr.keep (by k_asm) b9 o9 ?_; exact Fr.keep (by k_asm) b9 o9 q9))); (case zb => exact keep_at hc9 (by first | exact Fr.keep (by k_asm) | (intro b9 o9 q9; refine Fr.keep (by k_asm) b9 o9 ?_; exact Fr.keep (by k_asm) b9 o9 q9) | (intro b9 o9 q9; refine Fr.keep (by k_asm) b9 o9 ?_; refine Fr.keep (by k_asm) b9 o9 ?_; exact Fr.keep (by k_asm) b9 o9 q9))); (case zc => exact ExAt.keeps (by first | exact Fr.keep (by k_asm) | (intro b9 o9 q9; refine Fr.keep (by k_asm) b9 o9 ?_; exact Fr.keep (by k_asm) b9 o9 q9) | (intro b9 o9 q9; refine Fr.keep (by k_asm) b9 o9 ?_; refine Fr.keep (by k_asm) b9 o9 ?_; exact Fr.keep (by k_asm) b9 o9 q9)) hv9))); (case wB => k_asm); (case wF => k_asm); (case wX => k_asm); (case wT => k_asm); (case wk => exact rfl); (case wsub => k_dflt (first | exact fun q hq => .tail _ (.tail _ (.tail _ (.tail _ (.tail _ (.tail _ (.tail _ (.tail _ (.tail _ (hq))))))))) | exact fun q hq => .tail _ (.tail _ (.tail _ (.tail _ (.tail _ (.tail _ (.tail _ (.tail _ (.tail _ (.tail _ (hq)))))))))) | exact fun q hq => .tail _ (.tail _ (.tail _ (.tail _ (.tail _ (.tail _ (.tail _ (.tail _ (.tail _ (.tail _ (.tail _ (hq))))))))))) | exact fun q hq => .tail _ (.tail _ (.tail _ (.tail _ (.tail _ (.tail _ (.tail _ (.tail _ (.tail _ (.tail _ (.tail _ (.tail _ (hq)))))))))))) | exact fun q hq => .tail _ (.tail _ (.tail _ (.tail _ (.tail _ (.tail _ (.tail _ (.tail _ (.tail _ (.tail _ (.tail _ (.tail _ (.tail _ (hq))))))))))))))); (case whd => ((try simp only [depth_mark, depth_deeper]); (try dsimp only [ktrTop]); (try dsimp only [Ex.depth]); (first | exact rmk (by assumption) (by exact Nat.le_of_ble_eq_true rfl) | exact rmk1 (by assumption) (by exact Nat.le_of_ble_eq_true rfl) | exact rmk2 (by assumption) (by exact Nat.le_of_ble_eq_true rfl) | exact rmk3 (by assumption) (by exact Nat.le_of_ble_eq_true rfl) | exact rmk4 (by assumption) (by exact Nat.le_of_ble_eq_true rfl) | exact rmk0 (by assumption) | omega))); intro v9 h9' tk9 F9 N9 kp9 e9; rw [decide_eq_false hle] at e9; subst e9))
    k_with "exec While Constant cons nil" => (k_dflt (refine whl_start 3 ?_))
    repeat (first | (k_unfold; (try dsimp only)) | (k_end; wrow_close) | walk1 | (dsimp only; walk1) | (leave1; (try dsimp only)) | fail "no step")
    · exact ru_end (i := pb + 1) (c := c) (td := td) (te := te) (st := st + 1) (tst := t9) (by k_asm) (by k_asm) (by first | exact fun q hq => hq | exact fun q hq => .tail _ hq | exact fun q hq => .tail _ (.tail _ hq) | exact fun q hq => .tail _ (.tail _ (.tail _ hq)) | exact fun q hq => .tail _ (.tail _ (.tail _ (.tail _ hq)))) (funext frU_next) rfl hrun (st0 hst0) (st1 hst1)
    all_goals (
      repeat (first | (k_unfold; (try dsimp only)) | (k_end; wrow_close) | walk1 | (dsimp only; walk1) | (leave1; (try dsimp only)) | fail "no step")
      exact ru_end (i := pb + 1) (c := c) (td := td) (te := te) (st := st + 1) (tst := t9) (by k_asm) (by k_asm) (by first | exact fun q hq => hq | exact fun q hq => .tail _ hq | exact fun q hq => .tail _ (.tail _ hq) | exact fun q hq => .tail _ (.tail _ (.tail _ hq)) | exact fun q hq => .tail _ (.tail _ (.tail _ (.tail _ hq)))) (funext frU_next) rfl hrun (st0 hst0) (st1 hst1))
  | on hc hrun =>
    obtain ⟨hw9, hvs⟩ := hrs i q9 _ hq hc
    rw [hw9, hvs] at hg9
    have hs9 : IsTup g' q9.s (.str (Str.ofString "endif") q9.k3 :: []).toArray := ⟨_, hg9, rfl, 0, rfl⟩
    k_with "compareOp NotIn str ref" => (k_dflt (first | refine kdg_notin (knd := PySem.strKind _ _) (by k_asm) (by k_mem) hoh hlo (strKind_is _ _ _ _) true (by rw [hst4]; rfl) ?_ | refine kdg_notin (knd := PySem.strKind _ _) (by k_asm) (by k_mem) hfl9 hfo (strKind_is _ _ _ _) true (by rfl) ?_); (try dsimp only [Bool.not_true, Bool.not_false]))
    k_with "getItem ref str" => (k_dflt (first | refine wpAny_getItem_of (strKind_is _ _ _ _) (kda_dict (by k_asm) (by k_mem) hoh).mapOf hst4 ?_ | refine wpAny_getItem_of (strKind_is _ _ _ _) (kda_dict (by k_asm) (by k_mem) hfl9).mapOf (show valueAt _ _ = some (Value.ref fw) by rfl) ?_))
    k_with "subscriptTail Name Constant ref int" => (k_dflt (refine tup_item0 (IsTup.keeps hs9 (by first | exact Fr.keep (by k_asm) | (intro b9 o9 q9; refine Fr.keep (by k_asm) b9 o9 ?_; exact Fr.keep (by k_asm) b9 o9 q9) | (intro b9 o9 q9; refine Fr.keep (by k_asm) b9 o9 ?_; refine Fr.keep (by k_asm) b9 o9 ?_; exact Fr.keep (by k_asm) b9 o9 q9))) ?_ (by with_unfolding_all rfl)))
    k_with "call ref cons nil" => ((with_reducible rename Mark _ _ => mk9); (k_dflt (refine' Works.use mk9 hoffR ?wB ?wF ?wX ?wT ?wk ?wN ?wD ?wsub ?wsux ?whd ?_); (case wN => k_asm); (case wD => k_dflt (exact step_ok w _ r _ ok sep' (by (try dsimp only); omega) (by (try dsimp only); omega) _)); (case wB => k_asm); (case wF => k_asm); (case wX => k_asm); (case wT => k_asm); (case wk => exact rfl); (case wsub => k_dflt (first | exact fun q hq => hq | exact fun q hq => .tail _ hq | exact fun q hq => .tail _ (.tail _ hq) | exact fun q hq => .tail _ (.tail _ (.tail _ hq)) | exact fun q hq => .tail _ (.tail _ (.tail _ (.tail _ hq))))); (case wsux => k_dflt (first | exact List.forall_mem_nil _ | exact fmc (by k_mem) (List.forall_mem_nil _))); (case whd => ((try simp only [depth_mark, depth_deeper]); (try dsimp only [ktrTop]); (try dsimp only [Ex.depth]); (first | exact rmk (by assumption) (by exact Nat.le_of_ble_eq_true rfl) | exact rmk1 (by assumption) (by exact Nat.le_of_ble_eq_true rfl) | exact rmk2 (by assumption) (by exact Nat.le_of_ble_eq_true rfl) | exact rmk3 (by assumption) (by exact Nat.le_of_ble_eq_true rfl) | exact rmk4 (by assumption) (by exact Nat.le_of_ble_eq_true rfl) | exact rmk0 (by assumption) | omega))); intro v9 h9' tk9 e9' u9' F9 N9 kp9 e9 mk9'); clear mk9; obtain ⟨ee9, t9, ue9⟩ := e9; subst ee9; subst ue9; rw [lit_c] at N9; dsimp only [List.cons_append, List.nil_append] at N9)
    repeat (first | (k_unfold; (try dsimp only)) | (k_end; wrow_close) | walk1 | (dsimp only; walk1) | (leave1; (try dsimp only)) | fail "no step")
    · exact ru_end (c := c) (td := td) (te := te) (st := st + 1) (tst := t9) (by k_asm) (by k_asm) (by first | exact fun q hq => hq | exact fun q hq => .tail _ hq | exact fun q hq => .tail _ (.tail _ hq) | exact fun q hq => .tail _ (.tail _ (.tail _ hq)) | exact fun q hq => .tail _ (.tail _ (.tail _ (.tail _ hq)))) (funext frU_next) rfl hrun (st0 hst0) (st1 hst1)
    · exfalso
      omega
  | fin hc =>
    obtain ⟨hw9, hvs⟩ := hrs i q9 _ hq hc
    rw [hw9, hvs] at hg9
    have hs9 : IsTup g' q9.s (.str (Str.ofString "end") q9.k3 :: []).toArray := ⟨_, hg9, rfl, 0, rfl⟩
    k_with "compareOp NotIn str ref" => (k_dflt (first | refine kdg_notin (knd := PySem.strKind _ _) (by k_asm) (by k_mem) hoh hlo (strKind_is _ _ _ _) true (by rw [hst2]; rfl) ?_ | refine kdg_notin (knd := PySem.strKind _ _) (by k_asm) (by k_mem) hfl9 hfo (strKind_is _ _ _ _) true (by rfl) ?_); (try dsimp only [Bool.not_true, Bool.not_false]))
    k_with "getItem ref str" => (k_dflt (first | refine wpAny_getItem_of (strKind_is _ _ _ _) (kda_dict (by k_asm) (by k_mem) hoh).mapOf hst2 ?_ | refine wpAny_getItem_of (strKind_is _ _ _ _) (kda_dict (by k_asm) (by k_mem) hfl9).mapOf (show valueAt _ _ = some (Value.ref fw) by rfl) ?_))
    k_with "subscriptTail Name Constant ref int" => (k_dflt (first | refine item_tupleT (l := [.str (Str.ofString "return") _, .int 0 _]) ⟨_, ((by k_asm : News _ _ _ _) (_, tup [.str (Str.ofString "return") _, .int 0 _]) (by k_mem)).1, rfl, 0, rfl⟩ (by decide) (by decide) rfl rfl ?_ | refine tup_item0 (IsTup.keeps hs9 (by first | exact Fr.keep (by k_asm) | (intro b9 o9 q9; refine Fr.keep (by k_asm) b9 o9 ?_; exact Fr.keep (by k_asm) b9 o9 q9) | (intro b9 o9 q9; refine Fr.keep (by k_asm) b9 o9 ?_; refine Fr.keep (by k_asm) b9 o9 ?_; exact Fr.keep (by k_asm) b9 o9 q9))) ?_ (by with_unfolding_all rfl)))
    k_with "call ref cons nil" => ((with_reducible rename Mark _ _ => mk9); (k_dflt (refine' Works.use mk9 hoffR ?wB ?wF ?wX ?wT ?wk ?wN ?wD ?wsub ?wsux ?whd ?_); (case wN => k_asm); (case wD => k_dflt (exact step_ok w _ r _ ok sep' (by (try dsimp only); omega) (by (try dsimp only); omega) _)); (case wB => k_asm); (case wF => k_asm); (case wX => k_asm); (case wT => k_asm); (case wk => exact rfl); (case wsub => k_dflt (first | exact fun q hq => hq | exact fun q hq => .tail _ hq | exact fun q hq => .tail _ (.tail _ hq) | exact fun q hq => .tail _ (.tail _ (.tail _ hq)) | exact fun q hq => .tail _ (.tail _ (.tail _ (.tail _ hq))))); (case wsux => k_dflt (first | exact List.forall_mem_nil _ | exact fmc (by k_mem) (List.forall_mem_nil _))); (case whd => ((try simp only [depth_mark, depth_deeper]); (try dsimp only [ktrTop]); (try dsimp only [Ex.depth]); (first | exact rmk (by assumption) (by exact Nat.le_of_ble_eq_true rfl) | exact rmk1 (by assumption) (by exact Nat.le_of_ble_eq_true rfl) | exact rmk2 (by assumption) (by exact Nat.le_of_ble_eq_true rfl) | exact rmk3 (by assumption) (by exact Nat.le_of_ble_eq_true rfl) | exact rmk4 (by assumption) (by exact Nat.le_of_ble_eq_true rfl) | exact rmk0 (by assumption) | omega))); intro v9 h9' tk9 e9' u9' F9 N9 kp9 e9 mk9'); clear mk9; obtain ⟨ee9, t9, ue9⟩ := e9; subst ee9; subst ue9; rw [lit_c] at N9; dsimp only [List.cons_append, List.nil_append] at N9)
    repeat (first | (k_unfold; (try dsimp only)) | (k_end; wrow_close) | walk1 | (dsimp only; walk1) | (leave1; (try dsimp only)) | fail "no step")
    refine fun H => ?_
    (with_reducible rename News h₀ L _ _ => N8)
    exact hret _ _ _ _ ⟨c, td, te, st + 1, t9, u.t4, u.hd, u.fl⟩ H (by k_asm) (news_sub N8 (by first | exact fun q hq => .tail _ (.tail _ (.tail _ (.tail _ (.tail _ (.tail _ (.tail _ (.tail _ (.tail _ (hq))))))))) | exact fun q hq => .tail _ (.tail _ (.tail _ (.tail _ (.tail _ (.tail _ (.tail _ (.tail _ (.tail _ (.tail _ (hq)))))))))) | exact fun q hq => .tail _ (.tail _ (.tail _ (.tail _ (.tail _ (.tail _ (.tail _ (.tail _ (.tail _ (.tail _ (.tail _ (hq))))))))))) | exact fun q hq => .tail _ (.tail _ (.tail _ (.tail _ (.tail _ (.tail _ (.tail _ (.tail _ (.tail _ (.tail _ (.tail _ (.tail _ (hq)))))))))))) | exact fun q hq => .tail _ (.tail _ (.tail _ (.tail _ (.tail _ (.tail _ (.tail _ (.tail _ (.tail _ (.tail _ (.tail _ (.tail _ (.tail _ (hq))))))))))))))) rfl
-- part L3
set_option maxHeartbeats 8000000 in
theorem tick_ok (w : World) (s : Shared) {clk row : Addr} {od : Obj} {ws : List Value} {ns : List Int} {nn : Nat} {i many : Int} {t0 tm : Tok} (hod : od.IsDictOf (PySem.strKind PySem.Challenge.rw_zu0017_01.row.prog w) [(Str.ofString "row", .ref row), (Str.ofString "at", .int i t0)]) (hlo : (clk == sysModules) = false) (hne : @Ne Nat row clk) (hws : IntsAre ws ns) (hns : ns.length ≤ 3) (hi0 : 0 ≤ i) (hi1 : i < 10) (hm0 : 0 < many) (hm1 : many < 1000)
    (loose : List Str) (mean : ExcName → Option Value) (mg mb : Str → Option Value) (dp un : Nat) (gd : Option (List Code)) (cn : Str) (cs : Scope) (a : Addr) (ccd : Value) (cl : List (Str × Addr)) (outer : List Env) (A₀ : Around) (base h₀ : Heap) (L : Addr) (m : Str → Option Value) (Q E : Value → Shared → Prop) (C : Cx w loose mean mg mb dp un gd cn cs a ccd cl outer A₀ base h₀ L m s) (N : News h₀ L s.heap [(clk, od), (row, lstN ws nn)]) (hd : dp + 10 < 1000)
    (hret : ∀ h' tk' od' k t t', (∀ b o, s.heap.get? b = some o → b ≠ clk → h'.get? b = some o) → News h₀ L h' [(clk, od'), (row, lstN ws nn)] → od'.IsDictOf (PySem.strKind PySem.Challenge.rw_zu0017_01.row.prog w) [(Str.ofString "row", .ref row), (Str.ofString "at", .int (i + 1) t)] → 0 ≤ k → k < many → Q (.int k t') { s with heap := h', toks := tk' }) :
    wpAny (model PySem.Challenge.rw_zu0017_01.row.prog w) (ktrTop dp un gd cn cs L a ccd cl outer) (call (.ref 710) [.ref clk, .int many tm]) Q E s := by
  w_top off
  have X0 := C.X; revert X0; k_fill; intro X0
  (refine wpAny_call ?_; k_dflt (refine' enterT _ ?k1 ?k2 ?k3 ?k4 ?k5 ?kA ?kF ?kK ?k6 ?k7 ?k8 ?k9 ?kB ?_ ?c2 ?c3 ?c4 ?c5; (case kA => exact rfl); (case kF => exact rfl); (case kK => exact Cx.k (by assumption)); (case k1 => exact Cx.B (by assumption)); (case k2 => exact Cx.F (by assumption)); (case k3 => exact Cx.X (by assumption)); (case k4 => exact N); (case k5 => exact Cx.T (by assumption)); (case k6 => k_is); (case k7 => k_is); (case k8 => k_room); (case k9 => exact BindsTo.of_eq rfl); (case c5 => decide); (case kB => exact locs rfl); (case c2 => exact rfl); (case c3 => exact rfl); (case c4 => exact rfl); k_whole))
  intro g' L' h' hg FG' F' N' B' X' T'
  (try dsimp only)
  (with_reducible show wpAny _ _ _ _ _ _)
  k_fold
  k_with_none
  k_with "k_room" => (((try simp only [depth_mark, depth_under_make, depth_under_kw, depth_in1, depth_deeper, depth_caller]); (try dsimp only [ktrTop]); (try simp only [recursionLimit]); (first | exact rmk (by assumption) (by exact Nat.le_of_ble_eq_true rfl) | exact rmk1 (by assumption) (by exact Nat.le_of_ble_eq_true rfl) | exact rmk2 (by assumption) (by exact Nat.le_of_ble_eq_true rfl) | exact rmk3 (by assumption) (by exact Nat.le_of_ble_eq_true rfl) | exact rmk4 (by assumption) (by exact Nat.le_of_ble_eq_true rfl) | exact rmk0 (by assumption) | omega)))
  k_with "k_mem" => ((change (_ ∈ (_ : List (Addr × Obj))); ktr_member))
  k_with "k_mem" => (((change (_ ∈ ((_ ++ _) : List (Addr × Obj)))); first | (refine List.mem_append.mpr (Or.inl ?_); k_mem) | (refine List.mem_append.mpr (Or.inr ?_); k_mem)))
  k_with "binaryOp LShift int int" => (((refine lshift_int_small (by decide) (by decide) (by decide) ?_); rw [show ((1:Int) * 2 ^ ((32:Int) - 1).toNat) = 2147483648 from rfl]))
  k_with "tb_start" => (first | exact UpdN.head | (refine' UpdN.tail ?b; (case b => tb_start)))
  k_with "tb_rel" => (first | exact trivial | exact List.forall_mem_nil _ | (refine fmc (?a) (?b); (case a => first | (refine Or.inl ?_; k_cls) | (refine Or.inr ?_; assumption)); (case b => tb_rel)) | (refine And.intro ?a ?b; (case a => first | (refine Or.inl ?_; k_cls) | (refine Or.inr ?_; assumption)); (case b => tb_rel)))
  k_with "k_upd" => ((refine' UpdN.updS ?u9 ?n9 ?c9; (case u9 => tb_start); (case n9 => k_asm); (case c9 => tb_rel)))
  k_with "storeName" => (k_dflt (refine' storeX_any ?F ?N ?_ ?a ?b; (case F => k_asm); (case N => k_asm); (case a => rfl); (case b => rfl); k_whole); intro h' tk' F' N'; (try k_sweep))
  k_with "eval Call Name cons nil" => (refine Call_ ?_)
  k_with "eval Call Attribute cons nil" => (refine MethodCall_ ?_)
  k_with "spliced" => (first | ((with_reducible show wpAny _ _ (spliced (backTo _ (starEach (PySem.Expr.Name _ _ :: _) _))) _ _ _); k_dflt (refine' args_loc ?F ?v ?a ?b ?c ?_; (case F => k_asm); (case a => rfl); (case b => rfl); (case v => rfl); (case c => decide))) | ((with_reducible show wpAny _ _ (spliced (backTo _ (starEach (PySem.Expr.Constant (Const.int _) _ _ :: _) _))) _ _ _); refine args_int ?_) | ((with_reducible show wpAny _ _ (spliced (backTo _ (starEach (PySem.Expr.Constant (Const.str _) _ _ :: _) _))) _ _ _); refine args_str ?_))
  k_with "eval Attribute Name" => (k_dflt (refine' attr_loc ?F ?v ?a ?b ?c ?_; (case F => k_asm); (case a => rfl); (case b => rfl); (case v => rfl); (case c => decide)))
  k_with "eval Subscript" => (first | ((with_reducible show wpAny _ _ (eval (PySem.Expr.Subscript (PySem.Expr.Name _ _) (PySem.Expr.Constant (Const.int _) _ _) _) _) _ _ _); k_dflt (refine' sub_loc_int ?F ?v ?a ?b ?c ?_; (case F => k_asm); (case a => rfl); (case b => rfl); (case v => rfl); (case c => decide))) | ((with_reducible show wpAny _ _ (eval (PySem.Expr.Subscript (PySem.Expr.Name _ _) _ _) _) _ _ _); k_dflt (refine' sub_loc ?F ?v ?a ?b ?c ?_; (case F => k_asm); (case a => rfl); (case b => rfl); (case v => rfl); (case c => decide))))
  k_with "setItem ref str" => ((with_reducible show wpAny _ _ (setItem (Value.ref _) (Value.str (Str.ofString _) _) _) _ _ _); k_dflt (refine' kda_set (knd := PySem.strKind _ _) ?F ?N ?U hod (strKind_is _ _ _ _) ?z ?_; (case F => k_asm); (case N => k_asm); (case U => exact UpdF.head (fmc (hne) (List.forall_mem_nil _))); (case z => (rw [sizeLine_eq]; exact Nat.le_of_ble_eq_true rfl))); intro h5 o5 F5 N5 hd5; (try dsimp only at N5))
  repeat (first | (k_unfold; (try dsimp only)) | (k_end; wrow_close) | walk1 | (dsimp only; walk1) | (leave1; (try dsimp only)) | fail "no step")
  refine fun H => ?_
  (with_reducible rename News h₀ L _ _ => N8)
  exact hret _ _ _ _ _ _ (fun b o e hb => keep_but (d := clk) (n := clk) N N8 H (fmc (Or.inl rfl) ((fmc (Or.inr (Or.inr (by k_mem))) (List.forall_mem_nil _)))) b o e hb hb) N8 (by assumption) (Int.fmod_nonneg_of_pos _ hm0) (Int.fmod_lt_of_pos _ hm0)
  repeat (first | (k_unfold; (try dsimp only)) | (k_end; wrow_close) | walk1 | (dsimp only; walk1) | (leave1; (try dsimp only)) | fail "no step")
  refine fun H => ?_
  (with_reducible rename News h₀ L _ _ => N8)
  exact hret _ _ _ _ _ _ (fun b o e hb => keep_but (d := clk) (n := clk) N N8 H (fmc (Or.inl rfl) ((fmc (Or.inr (Or.inr (by k_mem))) (List.forall_mem_nil _)))) b o e hb hb) N8 (by assumption) (Int.fmod_nonneg_of_pos _ hm0) (Int.fmod_lt_of_pos _ hm0)
theorem rows_L3 : True := by
  k_with_none
  k_with "k_room" => (((try simp only [depth_mark, depth_under_make, depth_under_kw, depth_in1, depth_deeper, depth_caller]); (try dsimp only [ktrTop]); (try simp only [recursionLimit]); (first | exact rmk (by assumption) (by exact Nat.le_of_ble_eq_true rfl) | exact rmk1 (by assumption) (by exact Nat.le_of_ble_eq_true rfl) | exact rmk2 (by assumption) (by exact Nat.le_of_ble_eq_true rfl) | exact rmk3 (by assumption) (by exact Nat.le_of_ble_eq_true rfl) | exact rmk4 (by assumption) (by exact Nat.le_of_ble_eq_true rfl) | exact rmk0 (by assumption) | omega)))
  k_with "k_mem" => ((change (_ ∈ (_ : List (Addr × Obj))); ktr_member))
  k_with "k_mem" => (((change (_ ∈ ((_ ++ _) : List (Addr × Obj)))); first | (refine List.mem_append.mpr (Or.inl ?_); k_mem) | (refine List.mem_append.mpr (Or.inr ?_); k_mem)))
  k_with "binaryOp LShift int int" => (((refine lshift_int_small (by decide) (by decide) (by decide) ?_); rw [show ((1:Int) * 2 ^ ((32:Int) - 1).toNat) = 2147483648 from rfl]))
  trivial
-- part T10e
theorem ne_nil : ∀ {n : Nat}, NeN n []
  | 0 => trivial
  | _ + 1 => trivial
theorem ne_join : ∀ {m n : Nat} {l : List Addr}, DescN m l → NeN n (l.drop m) → NeN (m + n) l
  | 0, n, l, _, h => by rw [Nat.zero_add]; exact h
  | m + 1, n, [], _, _ => ne_nil
  | m + 1, n, a :: r, hD, hN => by
    rw [Nat.succ_add]
    exact ⟨fun b hb => Nat.ne_of_gt (hD.1 b hb), ne_join hD.2 hN⟩
theorem ne_push {n : Nat} {q : Addr} {l : List (Addr × Obj)} (h : NeN n (l.map (·.1))) (h9 : ∀ p ∈ l, @Ne Nat p.1 q) : NeN (n + 1) (q :: l.map (·.1)) :=
  ⟨fun b hb => by obtain ⟨p, hp, rfl⟩ := List.mem_map.mp hb; exact Ne.symm (h9 p hp), h⟩
theorem UpdFN.toF2 {d : Addr} {o : Obj} {k : Nat} {l : List (Addr × Obj)} {g : Obj → List (Addr × Obj)} (h : UpdFN d o k l g) : ∀ {m n : Nat}, DescN m (l.map (·.1)) → NeN n ((l.map (·.1)).drop m) → k < m + n → UpdF d o l g := by
  induction h with
  | head =>
    intro m n hD hN hk
    cases m with
    | zero =>
      obtain ⟨n, rfl⟩ : ∃ q, n = q + 1 := ⟨n - 1, by omega⟩
      exact .head fun p hp => Ne.symm (hN.1 _ (List.mem_map_of_mem hp))
    | succ m => exact .head fun p hp => Nat.ne_of_lt (hD.1 _ (List.mem_map_of_mem hp))
  | tail h ih =>
    intro m n hD hN hk
    cases m with
    | zero =>
      obtain ⟨n, rfl⟩ : ∃ q, n = q + 1 := ⟨n - 1, by omega⟩
      exact .tail (hN.1 _ h.mem) (ih (m := 0) trivial hN.2 (by omega))
    | succ m => exact .tail (Nat.ne_of_gt (hD.1 _ h.mem)) (ih hD.2 hN (by omega))
-- part P3
noncomputable abbrev numCmds : List Cmd := [.asg .M n0M, .asg .D n1D, .asg .W n2W, .fin]
noncomputable abbrev weeCmds : List Cmd := [.iff .J 2, .asg .J w0J, .asg .I w1I, .on, .asg .W w2W, .asg .W w3W, .fin]
noncomputable def Bop.bnd : Bop → Nat → Nat → Nat
  | .add, a, b => a + b
  | .sub, a, b => a + b
  | .mul, a, b => a * b
  | .div, a, _ => a
/-- a bound for the tree's value, from the names' bounds -/
noncomputable def Ex.bnd (B : Var → Nat) : Ex → Nat
  | .int n => n.natAbs
  | .var x => B x
  | .bin o l r => o.bnd (l.bnd B) (r.bnd B)
noncomputable def Ex.pos : Ex → Bool
  | .int n => decide (0 < n) && decide (n < 100000)
  | _ => false
noncomputable def Ex.chk (B : Var → Nat) : Ex → Bool
  | .int _ => true
  | .var _ => true
  | .bin o l r => l.chk B && r.chk B && Nat.blt (l.bnd B) 2147483648 && Nat.blt (r.bnd B) 2147483648 && Nat.blt (o.bnd (l.bnd B) (r.bnd B)) 2147483648 && (match o with | .div => r.pos | _ => true)
theorem fit_of {x : Int} {n : Nat} (h : x.natAbs ≤ n) (hn : Nat.blt n 2147483648 = true) : Fit x := by
  have := Nat.le_of_ble_eq_true hn
  exact ⟨by omega, by omega⟩
theorem Bop.bnd_ok {o : Bop} {x y : Int} {a b : Nat} (h1 : x.natAbs ≤ a) (h2 : y.natAbs ≤ b) : (o.eval x y).natAbs ≤ o.bnd a b := by
  cases o with
  | add => exact Nat.le_trans (Int.natAbs_add_le _ _) (Nat.add_le_add h1 h2)
  | sub => exact Nat.le_trans (Int.natAbs_sub_le _ _) (Nat.add_le_add h1 h2)
  | mul => exact Nat.le_trans (Nat.le_of_eq (Int.natAbs_mul _ _)) (Nat.mul_le_mul h1 h2)
  | div => exact Nat.le_trans (Nat.le_trans (Nat.le_of_eq (Int.natAbs_tdiv _ _)) (Nat.div_le_self _ _)) h1
theorem Ex.ok {B : Var → Nat} {e : St} (hB : ∀ x, (e.get x).natAbs ≤ B x) : ∀ t : Ex, t.chk B = true → t.Fits e ∧ (t.eval e).natAbs ≤ t.bnd B
  | .int _, _ => ⟨trivial, Nat.le_refl _⟩
  | .var x, _ => ⟨trivial, hB x⟩
  | .bin o l r, h => by
    unfold Ex.chk at h
    simp only [Bool.and_eq_true] at h
    obtain ⟨⟨⟨⟨⟨h1, h2⟩, h3⟩, h4⟩, h5⟩, h6⟩ := h
    have il := Ex.ok hB l h1
    have ir := Ex.ok hB r h2
    have hb := Bop.bnd_ok (o := o) il.2 ir.2
    refine ⟨⟨il.1, ir.1, fit_of il.2 h3, fit_of ir.2 h4, fit_of hb h5, ?_⟩, hb⟩
    cases o with
    | div =>
      cases r with
      | int n => simp only [Ex.pos, Bool.and_eq_true, decide_eq_true_eq] at h6; exact h6
      | var _ => cases h6
      | bin _ _ _ => cases h6
    | add => trivial
    | sub => trivial
    | mul => trivial
noncomputable def bd (a b c d f g : Nat) : Var → Nat
  | .I => a | .J => b | .K => c | .D => d | .W => f | .M => g
theorem bd_mk {I J K D W M : Int} {a b c d f g : Nat} (h1 : I.natAbs ≤ a) (h2 : J.natAbs ≤ b) (h3 : K.natAbs ≤ c) (h4 : D.natAbs ≤ d) (h5 : W.natAbs ≤ f) (h6 : M.natAbs ≤ g) : ∀ x, ((⟨I, J, K, D, W, M⟩ : St).get x).natAbs ≤ bd a b c d f g x := fun x => by
  cases x <;> assumption
theorem abs_le {x : Int} {n : Nat} (h1 : 0 ≤ x) (h2 : x ≤ n) : x.natAbs ≤ n := by omega
theorem num_runs (I J K : Int) (hI : 1600 ≤ I) (hI2 : I ≤ 2401) (h1 : 1 ≤ J) (h2 : J ≤ 12) (hK : 1 ≤ K) (hK2 : K ≤ 31) :
    RunsTo numCmds 101 ⟨I, J, K, numD I J K, numW (numD I J K), numM J⟩ 4 0 ⟨I, J, K, 0, 0, 0⟩ := by
  have ai : I.natAbs ≤ 2401 := abs_le (Int.le_trans (by decide) hI) hI2
  have aj : J.natAbs ≤ 12 := abs_le (Int.le_trans (by decide) h1) h2
  have ak : K.natAbs ≤ 31 := abs_le (Int.le_trans (by decide) hK) hK2
  have z : (0 : Int).natAbs ≤ 0 := Nat.le_refl _
  have m := Ex.ok (bd_mk ai aj ak z z z) n0M (by decide +kernel)
  have am : (numM J).natAbs ≤ 26 := Nat.le_trans m.2 (by decide +kernel)
  have d := Ex.ok (bd_mk ai aj ak z z am) n1D (by decide +kernel)
  have ad : (numD I J K).natAbs ≤ 20000000 := Nat.le_trans d.2 (by decide +kernel)
  have f := Ex.ok (bd_mk ai aj ak ad z am) n2W (by decide +kernel)
  refine RunsTo.asg (x := .M) (t := n0M) rfl m.1 (by decide) (show RunsTo numCmds 101 _ 3 1 ⟨I, J, K, 0, 0, numM J⟩ from ?_)
  refine RunsTo.asg (x := .D) (t := n1D) rfl d.1 (by decide) (show RunsTo numCmds 101 _ 2 2 ⟨I, J, K, numD I J K, 0, numM J⟩ from ?_)
  refine RunsTo.asg (x := .W) (t := n2W) rfl f.1 (by decide) (show RunsTo numCmds 101 _ 1 3 ⟨I, J, K, numD I J K, numW (numD I J K), numM J⟩ from ?_)
  exact RunsTo.fin rfl
theorem wee_tail (I J K : Int) (ai : I.natAbs ≤ 2401) (aj : J.natAbs ≤ 14) (ak : K.natAbs ≤ 31) :
    RunsTo weeCmds 3 ⟨I, J, K, 0, weeW I J K, 0⟩ 3 4 ⟨I, J, K, 0, 0, 0⟩ := by
  have z : (0 : Int).natAbs ≤ 0 := Nat.le_refl _
  have s := Ex.ok (bd_mk ai aj ak z z z) w2W (by decide +kernel)
  have as : (weeS I J K).natAbs ≤ 100000 := Nat.le_trans s.2 (by decide +kernel)
  have f := Ex.ok (bd_mk ai aj ak z as z) w3W (by decide +kernel)
  refine RunsTo.asg (x := .W) (t := w2W) rfl s.1 (by decide) (show RunsTo weeCmds 3 _ 2 5 ⟨I, J, K, 0, weeS I J K, 0⟩ from ?_)
  refine RunsTo.asg (x := .W) (t := w3W) rfl f.1 (by decide) (show RunsTo weeCmds 3 _ 1 6 ⟨I, J, K, 0, weeW I J K, 0⟩ from ?_)
  exact RunsTo.fin rfl
theorem runs_more1 {cs : List Cmd} {j : Nat} {e e' : St} {k i : Nat} (h : RunsTo cs j e' k i e) : RunsTo cs j e' (k + 1) i e := by
  induction h with
  | asg a b c _ ih => exact .asg a b c ih
  | yes a b _ ih => exact .yes a b ih
  | no a b _ ih => exact .no a b ih
  | on a _ ih => exact .on a ih
  | fin a => exact .fin a
theorem runs_more {cs : List Cmd} {j : Nat} {e e' : St} {i : Nat} (h : RunsTo cs j e' 3 i e) : RunsTo cs j e' 6 i e := runs_more1 (runs_more1 (runs_more1 h))
theorem wee_runs (I J K : Int) (hI : 1600 ≤ I) (hI2 : I ≤ 2401) (h1 : 1 ≤ J) (h2 : J ≤ 12) (hK : 1 ≤ K) (hK2 : K ≤ 31) :
    ∃ I' J' W, RunsTo weeCmds 3 ⟨I', J', K, 0, W, 0⟩ 7 0 ⟨I, J, K, 0, 0, 0⟩ ∧ W = (if J ≤ 2 then weeW (I - 1) (J + 12) K else weeW I J K) := by
  have ai : I.natAbs ≤ 2401 := abs_le (Int.le_trans (by decide) hI) hI2
  have aj : J.natAbs ≤ 12 := abs_le (Int.le_trans (by decide) h1) h2
  have ak : K.natAbs ≤ 31 := abs_le (Int.le_trans (by decide) hK) hK2
  have z : (0 : Int).natAbs ≤ 0 := Nat.le_refl _
  by_cases h : J ≤ 2
  · refine ⟨I - 1, J + 12, _, ?_, (if_pos h).symm⟩
    refine RunsTo.yes (x := .J) (n := 2) rfl h ?_
    refine RunsTo.asg (x := .J) (t := w0J) rfl (Ex.ok (bd_mk ai aj ak z z z) w0J (by decide +kernel)).1 (by decide) (show RunsTo weeCmds 3 _ 5 2 ⟨I, J + 12, K, 0, 0, 0⟩ from ?_)
    have bj : (J + 12).natAbs ≤ 14 := by omega
    have bi : (I - 1).natAbs ≤ 2401 := by omega
    refine RunsTo.asg (x := .I) (t := w1I) rfl (Ex.ok (bd_mk ai bj ak z z z) w1I (by decide +kernel)).1 (by decide) (show RunsTo weeCmds 3 _ 4 3 ⟨I - 1, J + 12, K, 0, 0, 0⟩ from ?_)
    refine RunsTo.on rfl ?_
    exact wee_tail _ _ _ bi bj ak
  · refine ⟨I, J, _, ?_, (if_neg h).symm⟩
    refine RunsTo.no (k := 6) (x := .J) (n := 2) rfl h ?_
    exact runs_more (wee_tail _ _ _ ai (Nat.le_trans aj (by decide)) ak)
-- part T10f
theorem UpdF.upd' {d : Addr} {o o' : Obj} {l : List (Addr × Obj)} {g : Obj → List (Addr × Obj)} (U : UpdF d o l g) : Upd d o o' l (g o') := by
  induction U with
  | head h => exact .head h
  | tail h _ ih => exact .tail h ih
theorem UpdF.addr {d : Addr} {o o' : Obj} {l : List (Addr × Obj)} {g : Obj → List (Addr × Obj)} (U : UpdF d o l g) : (g o').map (·.1) = l.map (·.1) := by
  induction U with
  | head h => rfl
  | tail h _ ih => simp only [List.map_cons, ih]
theorem mstore_use2 {w : World} {s : Shared} {mem dm nums pl : Addr} {its : List Value} {nn : Nat} {k v : Int} {cha pu : Value} {kn kc t1 t2 t3 tv : Tok} {news : List (Addr × Obj)} {g : Obj → List (Addr × Obj)} {i n : Nat} {loose : List Str} {mean : ExcName → Option Value} {mg mb : Str → Option Value} {dp un : Nat} {gd : Option (List Code)} {cn : Str} {cs : Scope} {a : Addr} {ccd : Value} {cl : List (Str × Addr)} {outer : List Env} {A₀ : Around} {base h₀ : Heap} {L : Addr} {m : Str → Option Value} {Q E : Value → Shared → Prop}
    (B : Below A₀ base outer h₀) (F : Fr h₀ L s.heap m) (X : (Mine.hd.heap_1_39 w.params).In h₀) (T : Top Mine.hd.view_1_40 loose mean mg mb h₀) (kf : cs.kind = .function) (N : News h₀ L s.heap news) (sub : ∀ q ∈ [(mem, instObj 141 dm), (dm, dictOf [ent w "numeric" kn (.ref nums), ent w "characters" kc cha] 2), (nums, lstN its nn), (pl, tup [.int 0 t1, .int k t2, .int 0 t3, pu])], q ∈ news) (hk : 0 ≤ k) (hk2 : k < 6) (hlen : its.length = 6)
    (U : UpdFN nums (lstN its nn) i news g) (hD : NeN n (news.map (·.1))) (hi : i < n) (hd : dp + 10 < 1000)
    (ret : ∀ v' h' tk' q t4 t5, Fr h₀ L h' m → News h₀ L h' ((q, tup [.int 0 t4, .int v t5]) :: g (lstN (its.set k.toNat (.ref q)) nn)) → NeN (n + 1) (q :: news.map (·.1)) → Q v' { s with heap := h', toks := tk' }) :
    wpAny (model PySem.Challenge.rw_zu0017_01.row.prog w) (ktrTop dp un gd cn cs L a ccd cl outer) (call (.ref 131) [.ref mem, .ref pl, .int v tv]) Q E s :=
  mstore_use B F X T kf N sub hk hk2 hlen (news' := fun q => g (lstN (its.set k.toNat (.ref q)) nn)) (fun q => UpdF.upd' (U.toF2 (m := 0) trivial hD (by omega))) hd fun v' h' tk' q t4 t5 F' N' ne => ret v' h' tk' q t4 t5 F' N' (ne_push hD ne)
-- part T10g
/-- a pair of an int and a ref, or three ints -/
noncomputable def lone (o : Obj) : Bool := match o.data with
  | .seq vs _ => (match vs.toList with | [.int _ _, .ref _] => true | [.int _ _, .int _ _, .int _ _] => true | _ => false)
  | _ => false
theorem lone_dict {prog : Program} {w : World} {K : Type} [DecidableEq K] {knd : KeyKind prog w K} {o : Obj} {kvs : List (K × Value)} (h : o.IsDictOf knd kvs) : lone o = false := by
  obtain ⟨es, n, h1, h2, h3, _⟩ := h
  unfold lone
  first | rw [h1] | rw [h2] | rw [h3]
theorem lone_refs (rs : List Row) (ln : Nat) : lone (lstN (rs.map fun q => .ref q.r) ln) = false := by
  cases rs <;> rfl
theorem lit_lone {w : World} {e : St} {r : Rw} (h : Rok w r) : ∀ p ∈ lit w e r, lone p.2 = false :=
  fmc rfl (fmc rfl (fmc (lone_dict h.e) (fmc (lone_dict h.o) (fmc (lone_dict h.f) (fmc rfl (fmc rfl (fmc rfl (fmc rfl (fmc rfl (fmc rfl (fmc rfl (fmc rfl (fmc rfl (fmc rfl (fmc rfl (fmc rfl (fmc rfl (fmc rfl (fmc rfl (fmc rfl (fmc rfl (List.forall_mem_nil _))))))))))))))))))))))
theorem ex_lone {w : World} {e : St} {r : Rw} (ok : Rok w r) {hd fl un' du stl : Addr} {oh ofl : Obj} {k1 k2 : List (Str × Value)} {qu : Un} {rs : List Row} {ln : Nat} (hoh : oh.IsDictOf (PySem.strKind PySem.Challenge.rw_zu0017_01.row.prog w) k1) (hofl : ofl.IsDictOf (PySem.strKind PySem.Challenge.rw_zu0017_01.row.prog w) k2) :
    ∀ q ∈ [(hd, oh), (fl, ofl), (un', instObj 698 du), (du, unitD w qu stl), (stl, lstN (rs.map fun q => .ref q.r) ln)] ++ lit w e r, lone q.2 = false :=
  List.forall_mem_append.mpr ⟨fmc (lone_dict hoh) ((fmc (lone_dict hofl) ((fmc (rfl) ((fmc (rfl) ((fmc (lone_refs _ _) (List.forall_mem_nil _))))))))), lit_lone ok⟩
theorem Ends.use {w : World} {f : Addr} {nd : Nat} {vs : List Value} {s : Shared} {e : St} {r : Rw} {u : Mv} {ex news rest : List (Addr × Obj)} {P : St → Prop} {loose : List Str} {mean : ExcName → Option Value} {mg mb : Str → Option Value} {dp un : Nat} {gd : Option (List Code)} {cn : Str} {cs : Scope} {a : Addr} {ccd : Value} {cl : List (Str × Addr)} {outer : List Env} {A₀ : Around} {base h₀ : Heap} {L : Addr} {m : Str → Option Value} {Q E : Value → Shared → Prop}
    (B : Below A₀ base outer h₀) (F : Fr h₀ L s.heap m) (X : (Mine.hd.heap_1_39 w.params).In h₀) (T : Top Mine.hd.view_1_40 loose mean mg mb h₀) (k : cs.kind = .function) (N : News h₀ L s.heap news)
    (D : Ends w f nd vs s e r u ex P) (sub : ∀ q ∈ ex ++ lit w e (r.upd u), q ∈ news) (sur : ∀ q ∈ rest, q ∈ news) (h1 : ∀ q ∈ rest, lone q.2 = true) (h2 : ∀ q ∈ ex ++ lit w e (r.upd u), lone q.2 = false) (hd : dp + nd < 1000)
    (ret : ∀ v h' tk' e' u', Fr h₀ L h' m → News h₀ L h' (rest ++ lit w e' (r.upd u')) → P e' → Q v { s with heap := h', toks := tk' }) :
    wpAny (model PySem.Challenge.rw_zu0017_01.row.prog w) (ktrTop dp un gd cn cs L a ccd cl outer) (call (.ref f) vs) Q E s := by
  refine D _ _ _ _ _ _ _ _ _ _ _ _ _ _ _ _ _ _ _ _ ⟨B, F, X, T, k⟩ (news_sub N sub) hd fun v h' tk' e' u' kp hF hN hp => ret v h' tk' e' u' hF (fun q hq => ?_) hp
  rcases List.mem_append.mp hq with hq | hq
  · have z := N q (sur q hq)
    exact ⟨kp _ _ z.1 (not_in2 (news_sub N sub) z.1 (h1 q hq) h2), z.2⟩
  · exact hN q hq
noncomputable def RowsAre (h : Heap) : List Row → List Cmd → Prop
  | [], [] => True
  | q :: rs, c :: cm => RowAt h q ∧ RowIs h q c ∧ RowsAre h rs cm
  | _, _ => False
theorem RowsAre.is {h : Heap} : ∀ {rs : List Row} {cm : List Cmd}, RowsAre h rs cm → ∀ (i : Nat) (q : Row) (c : Cmd), rs[i]? = some q → cm[i]? = some c → RowIs h q c
  | [], _, _, i, q, c, h1, _ => by cases i <;> cases h1
  | _ :: _, [], hr, _, _, _, _, _ => hr.elim
  | _ :: _, _ :: _, hr, 0, q, c, h1, h2 => by cases h1; cases h2; exact hr.2.1
  | _ :: _, _ :: _, hr, i + 1, q, c, h1, h2 => hr.2.2.is i q c h1 h2
theorem RowsAre.at_ {h : Heap} : ∀ {rs : List Row} {cm : List Cmd}, RowsAre h rs cm → ∀ q ∈ rs, RowAt h q
  | [], _, _, _, hq => nomatch hq
  | _ :: _, [], hr, _, _ => hr.elim
  | _ :: _, _ :: _, hr, q, hq => by
    rcases List.mem_cons.mp hq with rfl | hq
    · exact hr.1
    · exact hr.2.2.at_ q hq
theorem RowsAre.len {h : Heap} : ∀ {rs : List Row} {cm : List Cmd}, RowsAre h rs cm → cm.length = rs.length
  | [], [], _ => rfl
  | [], _ :: _, hr => hr.elim
  | _ :: _, [], hr => hr.elim
  | _ :: _, _ :: _, hr => congrArg (· + 1) hr.2.2.len


theorem shape_num {r0 s0 r1 s1 r2 s2 r3 s3 : Addr} {x0 y0 z0 x1 y1 z1 x2 y2 z2 x3 y3 z3 : Tok} {v0 v1 v2 v3 : List Value} : Shape [⟨r0, s0, x0, y0, z0, "assign", v0⟩, ⟨r1, s1, x1, y1, z1, "assign", v1⟩, ⟨r2, s2, x2, y2, z2, "assign", v2⟩, ⟨r3, s3, x3, y3, z3, "end", v3⟩] 100 101 := by
  refine ⟨fun i q h => Or.inl ?_, by decide, Or.inr (Nat.le_of_ble_eq_true rfl), Nat.le_of_ble_eq_true rfl⟩
  match i, h with
  | 0, h => cases h; exact ⟨by decide, by decide, Or.inl rfl⟩
  | 1, h => cases h; exact ⟨by decide, by decide, Or.inl rfl⟩
  | 2, h => cases h; exact ⟨by decide, by decide, Or.inl rfl⟩
  | 3, h => cases h; exact ⟨by decide, by decide, Or.inr rfl⟩
theorem shape_wee {r0 s0 r1 s1 r2 s2 r3 s3 r4 s4 r5 s5 r6 s6 : Addr} {x0 y0 z0 x1 y1 z1 x2 y2 z2 x3 y3 z3 x4 y4 z4 x5 y5 z5 x6 y6 z6 : Tok} {v0 v1 v2 v3 v4 v5 v6 : List Value} : Shape [⟨r0, s0, x0, y0, z0, "if", v0⟩, ⟨r1, s1, x1, y1, z1, "assign", v1⟩, ⟨r2, s2, x2, y2, z2, "assign", v2⟩, ⟨r3, s3, x3, y3, z3, "endif", v3⟩, ⟨r4, s4, x4, y4, z4, "assign", v4⟩, ⟨r5, s5, x5, y5, z5, "assign", v5⟩, ⟨r6, s6, x6, y6, z6, "end", v6⟩] 0 3 := by
  refine ⟨fun i q h => ?_, by decide, Or.inl (Nat.le_of_ble_eq_true rfl), Nat.le_of_ble_eq_true rfl⟩
  match i, h with
  | 0, h => cases h; exact Or.inr (Or.inl ⟨rfl, rfl⟩)
  | 1, h => cases h; exact Or.inl ⟨by decide, by decide, Or.inl rfl⟩
  | 2, h => cases h; exact Or.inl ⟨by decide, by decide, Or.inl rfl⟩
  | 3, h => cases h; exact Or.inr (Or.inr ⟨rfl, rfl⟩)
  | 4, h => cases h; exact Or.inl ⟨by decide, by decide, Or.inl rfl⟩
  | 5, h => cases h; exact Or.inl ⟨by decide, by decide, Or.inl rfl⟩
  | 6, h => cases h; exact Or.inl ⟨by decide, by decide, Or.inr rfl⟩
-- part T10h
noncomputable def vr : Nat → Var
  | 0 => .I | 1 => .J | 2 => .K | 3 => .D | 4 => .W | _ => .M
theorem name_all : ∀ i < 6, Txt.item (Str.ofString "IJKDWM") ((i : Nat) : Int) = Str.ofString (vr i).name := by decide +kernel
theorem name_item {i : Nat} (hi : i < 6) : Txt.item (Str.ofString "IJKDWM") (i : Int) = Str.ofString (vr i).name := by
  exact name_all i hi
theorem name_at {w : World} {A : Around} {E : Value → Shared → Prop} {s : Shared} {value slice : PySem.Expr} {t u : Tok} {i : Nat} {Q : Value → Shared → Prop} (hi : i < 6)
    (h : Q (.str (Str.ofString (vr i).name) s.toks) { s with toks := s.toks + 1 })
    (hs : subscripted slice false (.str (Str.ofString "IJKDWM") t) (.int i u) = operate [.str (Str.ofString "IJKDWM") t, .int i u] (getItem (.str (Str.ofString "IJKDWM") t) (.int i u)))
    (ht : ∀ r, letTemporaryGo value (.str (Str.ofString "IJKDWM") t) r = pure ()) :
    wpAny (model PySem.Challenge.rw_zu0017_01.row.prog w) A (subscriptTail value slice (.str (Str.ofString "IJKDWM") t) (.int i u)) Q E s :=
  KXi.item (n := 6) (by decide +kernel) (by omega) (by omega) (by decide) (fun _ => by rw [name_item hi]; exact h) hs ht
theorem sum_item {w : World} {A : Around} {E : Value → Shared → Prop} {s : Shared} {value slice : PySem.Expr} {h₀ : Heap} {L t : Addr} {news : List (Addr × Obj)} {I J K : Int} {d1 d2 d3 e1 e2 e3 u : Tok} {i : Nat} {Q : Value → Shared → Prop} (hi : i < 6) (N : News h₀ L s.heap news) (hm : (t, tup [.int I d1, .int J d2, .int K d3, .int 0 e1, .int 0 e2, .int 0 e3]) ∈ news)
    (h : ∀ k, Q (.int ((⟨I, J, K, 0, 0, 0⟩ : St).get (vr i)) k) s)
    (hs : subscripted slice false (.ref t) (.int i u) = operate [.ref t, .int i u] (getItem (.ref t) (.int i u))) :
    wpAny (model PySem.Challenge.rw_zu0017_01.row.prog w) A (subscriptTail value slice (.ref t) (.int i u)) Q E s := by
  obtain ⟨k, hk⟩ : ∃ k, [Value.int I d1, .int J d2, .int K d3, .int 0 e1, .int 0 e2, .int 0 e3][i]? = some (.int ((⟨I, J, K, 0, 0, 0⟩ : St).get (vr i)) k) := by
    clear h hs
    match i, hi with
    | 0, _ => exact ⟨_, rfl⟩
    | 1, _ => exact ⟨_, rfl⟩
    | 2, _ => exact ⟨_, rfl⟩
    | 3, _ => exact ⟨_, rfl⟩
    | 4, _ => exact ⟨_, rfl⟩
    | 5, _ => exact ⟨_, rfl⟩
  refine tup_led (j := i) N hm (by omega) (by omega) ?_ hk (h k) hs
  unfold seqIndex?
  have h1 : ¬ ((i : Int) < 0) := by omega
  have h2 : (i : Int) < 6 := by omega
  simp [h1, h2]
/-- what the loop of six has filled -/
inductive Filled (e : St) : Nat → List Value → List (Str × Value) → List (Addr × Obj) → Prop
  | zero {its pc} : its.length = 6 → Filled e 0 its [] pc
  | succ {i its kvs pc pc' p q t1 t2 t3 u t4 t5} : Filled e i its kvs pc → (∀ x ∈ pc, x ∈ pc') → (p, tup [.int 0 t1, .int (i : Int) t2, .int 0 t3, u]) ∈ pc' → (q, tup [.int 0 t4, .int (e.get (vr i)) t5]) ∈ pc' → Filled e (i + 1) (its.set i (.ref q)) (stored kvs (Str.ofString (vr i).name) (.ref p)) pc'
theorem Filled.len {e : St} {i : Nat} {its : List Value} {kvs : List (Str × Value)} {pc : List (Addr × Obj)} (h : Filled e i its kvs pc) : its.length = 6 := by
  induction h with
  | zero h => exact h
  | succ _ _ _ _ ih => rw [List.length_set]; exact ih
theorem stored_len {α : Type} [DecidableEq α] (kvs : List (α × Value)) (k : α) (v : Value) : (stored kvs k v).length ≤ kvs.length + 1 := by
  unfold stored
  split
  · rw [List.length_map]; omega
  · rw [List.length_append]; exact Nat.le_refl _
theorem Filled.kvs {e : St} {i : Nat} {its : List Value} {kvs : List (Str × Value)} {pc : List (Addr × Obj)} (h : Filled e i its kvs pc) : kvs.length ≤ i := by
  induction h with
  | zero h => exact Nat.le_refl _
  | succ _ _ _ _ ih => exact Nat.le_trans (stored_len _ _ _) (by omega)
noncomputable def vf {α : Type} (a b c d e f : α) : Var → α
  | .I => a | .J => b | .K => c | .D => d | .W => e | .M => f
theorem six_list {its : List Value} (h : its.length = 6) (a b c d e f : Value) : (((((its.set 0 a).set 1 b).set 2 c).set 3 d).set 4 e).set 5 f = [a, b, c, d, e, f] := by
  obtain _ | ⟨x0, _ | ⟨x1, _ | ⟨x2, _ | ⟨x3, _ | ⟨x4, _ | ⟨x5, _ | ⟨x6, its⟩⟩⟩⟩⟩⟩⟩ := its <;> first | rfl | cases h
theorem six_kvs (p : Var → Addr) : stored (stored (stored (stored (stored (stored [] (Str.ofString (vr 0).name) (.ref (p .I))) (Str.ofString (vr 1).name) (.ref (p .J))) (Str.ofString (vr 2).name) (.ref (p .K))) (Str.ofString (vr 3).name) (.ref (p .D))) (Str.ofString (vr 4).name) (.ref (p .W))) (Str.ofString (vr 5).name) (.ref (p .M)) = frKvs p := by
  rfl
structure Fi where
  (c p : Addr)
  (ta tb tc td te : Tok)
  (u : Value)
noncomputable def Fi.ok (e : St) (pc : List (Addr × Obj)) (i : Nat) (f : Fi) : Prop := (f.p, tup [.int 0 f.ta, .int (i : Int) f.tb, .int 0 f.tc, f.u]) ∈ pc ∧ (f.c, tup [.int 0 f.td, .int (e.get (vr i)) f.te]) ∈ pc
noncomputable def fSet (l : List Value) (F : Nat → Fi) : Nat → List Value
  | 0 => l
  | n + 1 => (fSet l F n).set n (.ref (F n).c)
noncomputable def fSto (F : Nat → Fi) : Nat → List (Str × Value)
  | 0 => []
  | n + 1 => stored (fSto F n) (Str.ofString (vr n).name) (.ref (F n).p)
theorem fSet_congr {l : List Value} {F G : Nat → Fi} : ∀ {n : Nat}, (∀ j < n, F j = G j) → fSet l F n = fSet l G n
  | 0, _ => rfl
  | n + 1, h => by rw [fSet, fSet, h n (Nat.lt_succ_self n), fSet_congr fun j hj => h j (Nat.lt_succ_of_lt hj)]
theorem fSto_congr {F G : Nat → Fi} : ∀ {n : Nat}, (∀ j < n, F j = G j) → fSto F n = fSto G n
  | 0, _ => rfl
  | n + 1, h => by rw [fSto, fSto, h n (Nat.lt_succ_self n), fSto_congr fun j hj => h j (Nat.lt_succ_of_lt hj)]
theorem Filled.all {e : St} {n : Nat} {its : List Value} {kvs : List (Str × Value)} {pc : List (Addr × Obj)} (h : Filled e n its kvs pc) :
    ∃ (l : List Value) (F : Nat → Fi), l.length = 6 ∧ its = fSet l F n ∧ kvs = fSto F n ∧ ∀ i < n, (F i).ok e pc i := by
  induction h with
  | zero hl => exact ⟨_, fun _ => ⟨0, 0, 0, 0, 0, 0, 0, .none⟩, hl, rfl, rfl, fun _ h => absurd h (Nat.not_lt_zero _)⟩
  | @succ i _ _ _ _ p q t1 t2 t3 u t4 t5 _ s hp hq ih =>
    obtain ⟨l, F, hl, e1, e2, hF⟩ := ih
    have hc : ∀ j < i, F j = (if j = i then Fi.mk q p t1 t2 t3 t4 t5 u else F j) := fun j hj => (if_neg (Nat.ne_of_lt hj)).symm
    refine ⟨l, fun j => if j = i then ⟨q, p, t1, t2, t3, t4, t5, u⟩ else F j, hl, ?_, ?_, fun j hj => ?_⟩
    · rw [e1, fSet, fSet_congr hc, if_pos rfl]
    · rw [e2, fSto, fSto_congr hc, if_pos rfl]
    · by_cases h : j = i
      · subst h; show Fi.ok e _ j (if j = j then _ else _); rw [if_pos rfl]; exact ⟨hp, hq⟩
      · show Fi.ok e _ j (if j = i then _ else _)
        rw [if_neg h]
        have hj := Nat.lt_of_le_of_ne (Nat.le_of_lt_succ hj) h
        exact ⟨s _ (hF j hj).1, s _ (hF j hj).2⟩
noncomputable def Var.ix : Var → Nat
  | .I => 0 | .J => 1 | .K => 2 | .D => 3 | .W => 4 | .M => 5
theorem Filled.six {e' : St} {its : List Value} {kvs : List (Str × Value)} {pc : List (Addr × Obj)} (h : Filled e' 6 its kvs pc) :
    ∃ (c p : Var → Addr) (ta tb tc td te : Var → Tok) (u : Var → Value), its = numsOf c ∧ kvs = frKvs p ∧ ∀ x : Var, (p x, tup [.int 0 (ta x), .int x.idx (tb x), .int 0 (tc x), u x]) ∈ pc ∧ (c x, tup [.int 0 (td x), .int (e'.get x) (te x)]) ∈ pc := by
  obtain ⟨l, F, hl, e1, e2, hF⟩ := h.all
  refine ⟨fun x => (F x.ix).c, fun x => (F x.ix).p, fun x => (F x.ix).ta, fun x => (F x.ix).tb, fun x => (F x.ix).tc, fun x => (F x.ix).td, fun x => (F x.ix).te, fun x => (F x.ix).u, e1.trans (six_list hl _ _ _ _ _ _), e2.trans (six_kvs fun x => (F x.ix).p), fun x => ?_⟩
  have hx := hF x.ix (by cases x <;> decide)
  cases x <;> exact hx
theorem ne_at : ∀ {n i j : Nat} {l : List Addr} {a b : Addr}, NeN n l → i < j → i < n → l[i]? = some a → l[j]? = some b → @Ne Nat a b
  | n, i, j, [], _, _, _, _, _, h, _ => by cases i <;> cases h
  | 0, _, _, _ :: _, _, _, _, _, h, _, _ => absurd h (Nat.not_lt_zero _)
  | n + 1, 0, j, x :: r, a, b, hN, hj, _, ha, hb => by
    obtain ⟨j, rfl⟩ : ∃ k, j = k + 1 := ⟨j - 1, by omega⟩
    cases ha
    exact hN.1 b (List.mem_of_getElem? hb)
  | n + 1, i + 1, j, x :: r, a, b, hN, hj, hi, ha, hb => by
    obtain ⟨j, rfl⟩ : ∃ k, j = k + 1 := ⟨j - 1, by omega⟩
    exact ne_at hN.2 (Nat.lt_of_succ_lt_succ hj) (Nat.lt_of_succ_lt_succ hi) ha hb
theorem ne_two {n i j : Nat} {l : List Addr} {a b : Addr} (hN : NeN n l) (hj : (i != j) = true) (hn : (Nat.ble (min i j + 1) n) = true) (ha : l[i]? = some a) (hb : l[j]? = some b) : @Ne Nat a b := by
  have hn := Nat.le_of_ble_eq_true hn
  rcases Nat.lt_trichotomy i j with h | h | h
  · exact ne_at hN h (by omega) ha hb
  · simp [h] at hj
  · exact Ne.symm (ne_at hN h (by omega) hb ha)
noncomputable abbrev litR (w : World) (r : Rw) : List (Addr × Obj) := [
  (r.run, instObj 330 r.dr),
  (r.dr, dictOf [ent w "memory" r.k0 (.ref r.mem), ent w "limits" r.k1 (.ref r.lim), ent w "units" r.k2 r.uni, ent w "world" r.k3 r.wor, ent w "expressions" r.k4 (.ref r.ex), ent w "statements" r.k5 r.sta, ent w "frame" r.k6 (.ref r.fra), ent w "depth" r.k7 r.dep, ent w "steps" r.k8 r.ste, ent w "places" r.k9 r.pla, ent w "flows" r.k10 r.flo, ent w "clears" r.k11 r.cle, ent w "active" r.k12 r.act, ent w "loops" r.k13 r.loo, ent w "operations" r.k14 (.ref r.ope), ent w "library" r.k15 r.lib] 16),
  (r.ex, r.oex), (r.ope, r.oope),
  (r.mem, instObj 141 r.dm), (r.dm, dictOf [ent w "numeric" r.kn (.ref r.nums), ent w "characters" r.kc r.cha] 2),
  (r.lim, instObj 677 r.dl), (r.dl, dictOf [ent w "width" r.l0 (.int 32 r.lw), ent w "real_digits" r.l1 r.m1, ent w "double_digits" r.l2 r.m2, ent w "top_exponent" r.l3 r.m3, ent w "steps" r.l4 r.m4, ent w "continuations" r.l5 r.m5, ent w "columns" r.l6 r.m6, ent w "depth" r.l7 r.m7] 8)]
theorem lit_all {w : World} {e : St} {r : Rw} {u : Mv} {P : Addr × Obj → Prop} {ofr : Obj} {c p : Var → Addr} {ta tb tc td te : Var → Tok} {uu : Var → Value} (hR : ∀ q ∈ litR w (r.upd u), P q) (hn : P (r.nums, lstN (numsOf c) r.nn)) (hf : P (r.fra, ofr))
    (hx : ∀ x : Var, P (p x, tup [.int 0 (ta x), .int x.idx (tb x), .int 0 (tc x), uu x]) ∧ P (c x, tup [.int 0 (td x), .int (e.get x) (te x)])) :
    ∀ q ∈ lit w e (Rw.upd { r with ofra := ofr, p := p, u := uu, ta := ta, tb := tb, tc := tc } { u with c := c, td := td, te := te }), P q := by
  exact fmc (hR _ (.head _)) (fmc (hR _ (.tail _ (.head _))) (fmc (hR _ (.tail _ (.tail _ (.head _)))) (fmc (hR _ (.tail _ (.tail _ (.tail _ (.head _))))) (fmc hf (fmc (hR _ (.tail _ (.tail _ (.tail _ (.tail _ (.head _)))))) (fmc (hR _ (.tail _ (.tail _ (.tail _ (.tail _ (.tail _ (.head _))))))) (fmc hn (fmc (hR _ (.tail _ (.tail _ (.tail _ (.tail _ (.tail _ (.tail _ (.head _)))))))) (fmc (hR _ (.tail _ (.tail _ (.tail _ (.tail _ (.tail _ (.tail _ (.tail _ (.head _))))))))) (fmc (hx .I).1 (fmc (hx .I).2 (fmc (hx .J).1 (fmc (hx .J).2 (fmc (hx .K).1 (fmc (hx .K).2 (fmc (hx .D).1 (fmc (hx .D).2 (fmc (hx .W).1 (fmc (hx .W).2 (fmc (hx .M).1 (fmc (hx .M).2 (List.forall_mem_nil _))))))))))))))))))))))
noncomputable def frI (a? : Option Value) (m : Str → Option Value) (y : Str) : Option Value := if y = Str.ofString "at" then a? else m y
theorem frI_start {m : Str → Option Value} (y : Str) : m y = frI (m (Str.ofString "at")) m y := by
  unfold frI
  split
  · next h => rw [h]
  · rfl
theorem frI_next {a? : Option Value} {v : Value} {m : Str → Option Value} (y : Str) : (if y = Str.ofString "at" then some v else frI a? m y) = frI (some v) m y := by
  unfold frI
  split <;> rfl
inductive FiInv (w : World) (e : St) (nums fra fl : Addr) (nn : Nat) (R : List (Addr × Obj)) (base : Str → Option Value) (i : Nat) (m : Str → Option Value) (nx : List (Addr × Obj)) : Prop
  | mk (a? : Option Value) (its : List Value) (ofr : Obj) (kvs : List (Str × Value)) (pc : List (Addr × Obj)) (f0 : m = frI a? base) (f1 : nx = (nums, lstN its nn) :: (fra, ofr) :: (R ++ pc)) (f2 : ofr.IsDictOf (PySem.strKind PySem.Challenge.rw_zu0017_01.row.prog w) kvs) (f3 : Filled e i its kvs pc) (f4 : NeN 2 (nums :: fra :: (R ++ pc).map (·.1))) (f5 : ∀ x ∈ pc, @Ne Nat x.1 fl) : FiInv w e nums fra fl nn R base i m nx
theorem ne_more {nums fra : Addr} {R pc pc' : List (Addr × Obj)} (h : NeN 2 (nums :: fra :: (R ++ pc).map (·.1))) (h' : ∀ x ∈ pc', @Ne Nat nums x.1 ∧ @Ne Nat fra x.1) : NeN 2 (nums :: fra :: (R ++ (pc' ++ pc)).map (·.1)) := by
  obtain ⟨h1, h2, _⟩ := h
  refine ⟨fun b hb => ?_, fun b hb => ?_, trivial⟩
  · rcases List.mem_cons.mp hb with rfl | hb
    · exact h1 _ (.head _)
    · obtain ⟨x, hx, rfl⟩ := List.mem_map.mp hb
      rcases List.mem_append.mp hx with hx | hx
      · exact h1 _ (.tail _ (List.mem_map_of_mem (List.mem_append_left _ hx)))
      · rcases List.mem_append.mp hx with hx | hx
        · exact (h' x hx).1
        · exact h1 _ (.tail _ (List.mem_map_of_mem (List.mem_append_right _ hx)))
  · obtain ⟨x, hx, rfl⟩ := List.mem_map.mp hb
    rcases List.mem_append.mp hx with hx | hx
    · exact h2 _ (List.mem_map_of_mem (List.mem_append_left _ hx))
    · rcases List.mem_append.mp hx with hx | hx
      · exact (h' x hx).2
      · exact h2 _ (List.mem_map_of_mem (List.mem_append_right _ hx))
theorem fi_end {w : World} {e : St} {nums fra fl p q I : Addr} {nn i tk : Nat} {R pc all : List (Addr × Obj)} {base m' : Str → Option Value} {its : List Value} {ofr ofr' oI : Obj} {kvs : List (Str × Value)} {h₀ h' : Heap} {L : Addr} {s₁ : Shared} {t1 t2 t3 t4 t5 : Tok} {u : Value} {a? : Option Value}
    (F : Fr h₀ L h' m') (N : News h₀ L h' all) (hI : (I, oI) ∈ all) (hn : (nums, lstN (its.set i (.ref q)) nn) ∈ all) (hf : (fra, ofr') ∈ all) (hR : ∀ x ∈ R ++ pc, x ∈ all) (hp : (p, tup [.int 0 t1, .int (i : Int) t2, .int 0 t3, u]) ∈ all) (hq : (q, tup [.int 0 t4, .int (e.get (vr i)) t5]) ∈ all)
    (hm : m' = frI a? base) (hd : ofr'.IsDictOf (PySem.strKind PySem.Challenge.rw_zu0017_01.row.prog w) (stored kvs (Str.ofString (vr i).name) (.ref p))) (Fi : Filled e i its kvs pc) (NE : NeN 2 (nums :: fra :: (R ++ pc).map (·.1))) (NF : ∀ x ∈ pc, @Ne Nat x.1 fl)
    (off : ∀ x ∈ (nums, lstN its nn) :: (fra, ofr) :: (R ++ pc), @Ne Nat x.1 I) (np : ∀ b ∈ [I, nums, fra, fl], @Ne Nat p b) (nq : ∀ b ∈ [I, nums, fra, fl], @Ne Nat q b) : TbEnd h₀ L (FiInv w e nums fra fl nn R base (i + 1)) [(I, oI)] s₁ { s₁ with heap := h', toks := tk } := by
  refine ⟨h', tk, m', all, (nums, lstN (its.set i (.ref q)) nn) :: (fra, ofr') :: (R ++ ((p, tup [.int 0 t1, .int (i : Int) t2, .int 0 t3, u]) :: (q, tup [.int 0 t4, .int (e.get (vr i)) t5]) :: pc)), rfl, F, N, ?_, ?_, ?_, a?, its.set i (.ref q), ofr', _, _, hm, rfl, hd, Fi.succ (fun x hx => .tail _ (.tail _ hx)) (.head _) (.tail _ (.head _)), ne_more (pc' := [_, _]) NE ?_, fmc (np _ (.tail _ (.tail _ (.tail _ (.head _))))) ((fmc (nq _ (.tail _ (.tail _ (.tail _ (.head _))))) (NF)))⟩
  · refine fmc (hn) ((fmc (hf) (fun x hx => ?_)))
    rcases List.mem_append.mp hx with hx | hx
    · exact hR x (List.mem_append_left _ hx)
    · rcases List.mem_cons.mp hx with rfl | hx
      · exact hp
      · rcases List.mem_cons.mp hx with rfl | hx
        · exact hq
        · exact hR x (List.mem_append_right _ hx)
  · intro x hx; rcases List.mem_singleton.mp hx with rfl; exact hI
  · intro y hy x hx
    rcases List.mem_singleton.mp hy with rfl
    refine Ne.symm ?_
    rcases List.mem_cons.mp hx with rfl | hx
    · exact off (nums, lstN its nn) (.head _)
    · rcases List.mem_cons.mp hx with rfl | hx
      · exact off (fra, ofr) (.tail _ (.head _))
      · rcases List.mem_append.mp hx with hx | hx
        · exact off x (.tail _ (.tail _ (List.mem_append_left _ hx)))
        · rcases List.mem_cons.mp hx with rfl | hx
          · exact np _ (.head _)
          · rcases List.mem_cons.mp hx with rfl | hx
            · exact nq _ (.head _)
            · exact off x (.tail _ (.tail _ (List.mem_append_right _ hx)))
  · exact fmc (⟨Ne.symm (np _ (.tail _ (.head _))), Ne.symm (np _ (.tail _ (.tail _ (.head _))))⟩) ((fmc (⟨Ne.symm (nq _ (.tail _ (.head _))), Ne.symm (nq _ (.tail _ (.tail _ (.head _))))⟩) (List.forall_mem_nil _)))
theorem ne_of_news {n : Nat} {h₀ h : Heap} {L : Addr} {l : List (Addr × Obj)} (_N : News h₀ L h l) (hN : NeN n (l.map (·.1))) : NeN n (l.map (·.1)) := hN
theorem ne_cons {n : Nat} {I : Addr} {l : List (Addr × Obj)} (h : ∀ q ∈ l, @Ne Nat q.1 I) (hN : NeN n (l.map (·.1))) : NeN (n + 1) (I :: l.map (·.1)) :=
  ⟨fun b hb => by obtain ⟨x, hx, rfl⟩ := List.mem_map.mp hb; exact Ne.symm (h x hx), hN⟩
-- part T10i
noncomputable def refy (o : Obj) : Bool := match o.data with
  | .seq vs _ => (match vs.toList with | .ref _ :: _ => true | _ => false)
  | _ => false
theorem RowIs.keeps {h g : Heap} (k : ∀ b o, h.get? b = some o → g.get? b = some o) {q : Row} {c : Cmd} (x : RowIs h q c) : RowIs g q c :=
  x.leave (h₀ := h) (L := h.objs.size) (lt := []) (fun b o e _ => k b o e) (fun _ h => nomatch h) (fun _ h => nomatch h)
noncomputable def BackMark : Prop := True
theorem rows_R1 : True := by
  k_with_none
  k_with "k_room" => (((try simp only [depth_mark, depth_under_make, depth_under_kw, depth_in1, depth_deeper, depth_caller]); (try dsimp only [ktrTop]); (try simp only [recursionLimit]); (first | exact rmk (by assumption) (by exact Nat.le_of_ble_eq_true rfl) | exact rmk1 (by assumption) (by exact Nat.le_of_ble_eq_true rfl) | exact rmk2 (by assumption) (by exact Nat.le_of_ble_eq_true rfl) | exact rmk3 (by assumption) (by exact Nat.le_of_ble_eq_true rfl) | exact rmk4 (by assumption) (by exact Nat.le_of_ble_eq_true rfl) | exact rmk0 (by assumption) | omega)))
  k_with "k_mem" => ((change (_ ∈ (_ : List (Addr × Obj))); ktr_member))
  k_with "k_mem" => (((change (_ ∈ ((_ ++ _) : List (Addr × Obj)))); first | (refine List.mem_append.mpr (Or.inl ?_); k_mem) | (refine List.mem_append.mpr (Or.inr ?_); k_mem)))
  k_with "binaryOp LShift int int" => (((refine lshift_int_small (by decide) (by decide) (by decide) ?_); rw [show ((1:Int) * 2 ^ ((32:Int) - 1).toNat) = 2147483648 from rfl]))
  k_with "k_mem" => (((with_reducible rename BackMark => bk9); first | with_reducible assumption | exact .head _ | (refine List.mem_append_left _ ?_; with_reducible assumption) | (refine .tail _ ?_; k_mem)))
  k_with "tb_start" => (first | exact UpdN.head | exact UpdFN.head | (refine' UpdN.tail ?b; (case b => tb_start)) | (refine' UpdFN.tail ?b; (case b => tb_start)))
  k_with "tb_rel" => (first | exact trivial | exact List.forall_mem_nil _ | (refine fmc (?a) (?b); (case a => k_cls); (case b => tb_rel)) | (refine And.intro ?a ?b; (case a => k_cls); (case b => tb_rel)))
  k_with "k_upd" => (first | (refine' UpdN.upd ?u9 ?d9 ?l9; (case u9 => tb_start); (case d9 => assumption); (case l9 => decide)) | (refine' UpdN.upd2 ?u9 ?d9 ?n9 ?l9; (case u9 => tb_start); (case d9 => assumption); (case n9 => assumption); (case l9 => decide)) | (refine' UpdN.updC ?u9 ?n9 ?c9; (case u9 => tb_start); (case n9 => k_asm); (case c9 => tb_rel)))
  k_with "k_lt" => ((rename (∀ p ∈ (_ : List (Addr × Obj)), p.1 < _) => l9); first | ((rename DescN _ _ => d9); k_dflt (replace l9 := desc_consA d9 rfl l9)) | (k_dflt (replace l9 := desc_cons (by assumption) l9); (try simp only [List.map_cons, List.map_nil] at l9)) | skip)
  k_with "k_lt2" => ((rename ((_ : Nat) < _) => l8); first | k_dflt (replace l8 := desc_cons2 (by assumption) l8) | replace l8 := ltN l8)
  k_with "k_in" => ((refine' Frag.In.keeps (K := Mine.hd.heap_1_39 _) ?kI9 (Fr.keep ?kF9); (case kF9 => k_asm); (case kI9 => k_asm)))
  k_with "CompRestP" => ((with_unfolding_all (refine' comp_succ ?hP ?hm ?hc ?hd ?_; (case hP => intro v' hv'; lcg_open hv'; exact rfl); (case hm => k_mem); (case hc => exact rfl); (case hd => exact rfl); intro I' oI' C' oC' D' m' h' tk' E' hC' hx' hy' F' N' off' ne'; (try simp only [LCg.Off3, and_true] at off'))))
  trivial
-- part R1
theorem fresh_desc {n : Nat} {x : Addr} {l : List Addr} (h : DescN (n + 1) (x :: l)) : ∀ b ∈ l, @Ne Nat b x := fun b hb => Nat.ne_of_lt (h.1 b hb)
set_option maxHeartbeats 8000000 in
theorem unit_use {w : World} {s : Shared} {news : List (Addr × Obj)} {ta tb : Tok} {loose : List Str} {mean : ExcName → Option Value} {mg mb : Str → Option Value} {dp un : Nat} {gd : Option (List Code)} {cn : Str} {cs : Scope} {a : Addr} {ccd : Value} {cl : List (Str × Addr)} {outer : List Env} {A₀ : Around} {base h₀ : Heap} {L : Addr} {m : Str → Option Value} {Q E : Value → Shared → Prop}
    (B : Below A₀ base outer h₀) (F : Fr h₀ L s.heap m) (X : (Mine.hd.heap_1_39 w.params).In h₀) (T : Top Mine.hd.view_1_40 loose mean mg mb h₀) (kf : cs.kind = .function) (N : News h₀ L s.heap news) (hd : dp + 10 < 1000)
    (ret : ∀ x d l qu h' tk', Fr h₀ L h' m → News h₀ L h' ((l, listOf #[] 0) :: (x, instObj 698 d) :: (d, unitD w qu l) :: news) → NeN 3 (l :: x :: d :: news.map (·.1)) → Q (.ref x) { s with heap := h', toks := tk' }) :
    wpAny (model PySem.Challenge.rw_zu0017_01.row.prog w) (ktrTop dp un gd cn cs L a ccd cl outer) (call (.ref 698) [.str (Str.ofString "program") ta, .str (Str.ofString "P") tb]) Q E s := by
  have X0 := X; revert X0; k_fill; intro X0
  have dn : DescN 0 (news.map (·.1)) := trivial
  k_dflt (refine' call_cls ?k1 ?k2 ?k3 ?k4 ?k5 ?k6 ?_; (case k1 => k_asm); (case k2 => k_asm); (case k3 => k_asm); (case k4 => k_is); (case k5 => k_is); (case k6 => k_is); k_whole; intro x' d' h' F' N' l1 l2; (try k_lt l1); (try k_lt2 l2))
  k_dflt (refine' code_def (binds := [(Str.ofString "self", .ref x'), (Str.ofString "kind", .str (Str.ofString "program") ta), (Str.ofString "name", .str (Str.ofString "P") tb)]) ?k1 ?k2 ?k3 ?k4 ?k5 ?kA ?kF ?kK ?k6 ?k7 ?k8 ?k9 ?kB ?_ ?c2 ?c3 ?c4 ?c5; (case kA => exact rfl); (case kF => exact rfl); (case kK => exact kf); (case k1 => k_asm); (case k2 => k_asm); (case k3 => k_asm); (case k4 => k_asm); (case k5 => k_asm); (case k6 => k_is); (case k7 => k_is); (case k8 => k_room); (case k9 => exact BindsTo.of_eq (by kernel_rfl)); (case c5 => decide); (case kB => exact locs rfl); (case c2 => exact rfl); (case c3 => exact rfl); (case c4 => exact rfl); k_whole; intro g5 L5 h5 FG5 F5 N5 B5 X5 T5; (try dsimp only); (try k_lift B5); (try k_fold))
  k_with_none
  k_with "k_room" => (((try simp only [depth_mark, depth_under_make, depth_under_kw, depth_in1, depth_deeper, depth_caller]); (try dsimp only [ktrTop]); (try simp only [recursionLimit]); (first | exact rmk (by assumption) (by exact Nat.le_of_ble_eq_true rfl) | exact rmk1 (by assumption) (by exact Nat.le_of_ble_eq_true rfl) | exact rmk2 (by assumption) (by exact Nat.le_of_ble_eq_true rfl) | exact rmk3 (by assumption) (by exact Nat.le_of_ble_eq_true rfl) | exact rmk4 (by assumption) (by exact Nat.le_of_ble_eq_true rfl) | exact rmk0 (by assumption) | omega)))
  k_with "k_mem" => ((change (_ ∈ (_ : List (Addr × Obj))); ktr_member))
  k_with "k_mem" => (((change (_ ∈ ((_ ++ _) : List (Addr × Obj)))); first | (refine List.mem_append.mpr (Or.inl ?_); k_mem) | (refine List.mem_append.mpr (Or.inr ?_); k_mem)))
  k_with "binaryOp LShift int int" => (((refine lshift_int_small (by decide) (by decide) (by decide) ?_); rw [show ((1:Int) * 2 ^ ((32:Int) - 1).toNat) = 2147483648 from rfl]))
  k_with "k_mem" => (((with_reducible rename BackMark => bk9); first | with_reducible assumption | exact .head _ | (refine List.mem_append_left _ ?_; with_reducible assumption) | (refine .tail _ ?_; k_mem)))
  k_with "tb_start" => (first | exact UpdN.head | exact UpdFN.head | (refine' UpdN.tail ?b; (case b => tb_start)) | (refine' UpdFN.tail ?b; (case b => tb_start)))
  k_with "tb_rel" => (first | exact trivial | exact List.forall_mem_nil _ | (refine fmc (?a) (?b); (case a => k_cls); (case b => tb_rel)) | (refine And.intro ?a ?b; (case a => k_cls); (case b => tb_rel)))
  k_with "k_upd" => (first | (refine' UpdN.upd ?u9 ?d9 ?l9; (case u9 => tb_start); (case d9 => assumption); (case l9 => decide)) | (refine' UpdN.upd2 ?u9 ?d9 ?n9 ?l9; (case u9 => tb_start); (case d9 => assumption); (case n9 => assumption); (case l9 => decide)) | (refine' UpdN.updC ?u9 ?n9 ?c9; (case u9 => tb_start); (case n9 => k_asm); (case c9 => tb_rel)))
  k_with "k_lt" => ((rename (∀ p ∈ (_ : List (Addr × Obj)), p.1 < _) => l9); first | ((rename DescN _ _ => d9); k_dflt (replace l9 := desc_consA d9 rfl l9)) | (k_dflt (replace l9 := desc_cons (by assumption) l9); (try simp only [List.map_cons, List.map_nil] at l9)) | skip)
  k_with "k_lt2" => ((rename ((_ : Nat) < _) => l8); first | k_dflt (replace l8 := desc_cons2 (by assumption) l8) | replace l8 := ltN l8)
  k_with "k_in" => ((refine' Frag.In.keeps (K := Mine.hd.heap_1_39 _) ?kI9 (Fr.keep ?kF9); (case kF9 => k_asm); (case kI9 => k_asm)))
  k_with "CompRestP" => ((with_unfolding_all (refine' comp_succ ?hP ?hm ?hc ?hd ?_; (case hP => intro v' hv'; lcg_open hv'; exact rfl); (case hm => k_mem); (case hc => exact rfl); (case hd => exact rfl); intro I' oI' C' oC' D' m' h' tk' E' hC' hx' hy' F' N' off' ne'; (try simp only [LCg.Off3, and_true] at off'))))
  k_with "storeName" => (k_dflt (refine' storeX_any ?F ?N ?_ ?a ?b; (case F => k_asm); (case N => k_asm); (case a => rfl); (case b => rfl); k_whole); intro h' tk' F' N'; (try k_sweep))
  k_with "eval Call Name cons nil" => (refine Call_ ?_)
  k_with "eval Call Attribute cons nil" => (refine MethodCall_ ?_)
  k_with "spliced" => (first | ((with_reducible show wpAny _ _ (spliced (backTo _ (starEach (PySem.Expr.Name _ _ :: _) _))) _ _ _); k_dflt (refine' args_loc ?F ?v ?a ?b ?c ?_; (case F => k_asm); (case a => rfl); (case b => rfl); (case v => rfl); (case c => decide))) | ((with_reducible show wpAny _ _ (spliced (backTo _ (starEach (PySem.Expr.Constant (Const.int _) _ _ :: _) _))) _ _ _); refine args_int ?_) | ((with_reducible show wpAny _ _ (spliced (backTo _ (starEach (PySem.Expr.Constant (Const.str _) _ _ :: _) _))) _ _ _); refine args_str ?_))
  k_with "eval Attribute Name" => (k_dflt (refine' attr_loc ?F ?v ?a ?b ?c ?_; (case F => k_asm); (case a => rfl); (case b => rfl); (case v => rfl); (case c => decide)))
  k_with "eval Subscript" => (first | ((with_reducible show wpAny _ _ (eval (PySem.Expr.Subscript (PySem.Expr.Name _ _) (PySem.Expr.Constant (Const.int _) _ _) _) _) _ _ _); k_dflt (refine' sub_loc_int ?F ?v ?a ?b ?c ?_; (case F => k_asm); (case a => rfl); (case b => rfl); (case v => rfl); (case c => decide))) | ((with_reducible show wpAny _ _ (eval (PySem.Expr.Subscript (PySem.Expr.Name _ _) _ _) _) _ _ _); k_dflt (refine' sub_loc ?F ?v ?a ?b ?c ?_; (case F => k_asm); (case a => rfl); (case b => rfl); (case v => rfl); (case c => decide))))
  iterate 92 (first | (k_unfold; (try dsimp only)) | (k_end; wrow_close) | walk1 | (dsimp only; walk1) | (leave1; (try dsimp only)) | fail "no step")
  (with_reducible rename News h₀ L _ _ => N8)
  (with_reducible rename Fr h₀ L _ _ => F8)
  (with_reducible rename DescN _ _ => dn8)
  have nA := desc_ne dn8
  exact ret x' d' _ ⟨_, _, _, _, _, _, _, _, _, _, _, _, _, _, _, _, _, _, _, _, _, _, _, _, _, _, _⟩ _ _ F8 (news_sub N8 (fmc (.tail _ (.tail _ (.tail _ (.tail _ (.tail _ (.tail _ (.tail _ (.head _)))))))) ((fmc (.tail _ (.tail _ (.tail _ (.tail _ (.tail _ (.tail _ (.tail _ (.tail _ (.tail _ (.tail _ (.tail _ (.head _)))))))))))) ((fmc (.tail _ (.tail _ (.tail _ (.tail _ (.tail _ (.tail _ (.tail _ (.tail _ (.tail _ (.tail _ (.tail _ (.tail _ (.head _))))))))))))) (fun q hq => .tail _ (.tail _ (.tail _ (.tail _ (.tail _ (.tail _ (.tail _ (.tail _ (.tail _ (.tail _ (.tail _ (.tail _ (.tail _ (hq)))))))))))))))))))) ⟨fun b hb => nA.2.2.2.2.2.2.2.1 b (.tail _ (.tail _ (.tail _ hb))), fun b hb => nA.2.2.2.2.2.2.2.2.2.2.2.1 b hb, nA.2.2.2.2.2.2.2.2.2.2.2.2⟩
-- part R2
set_option maxHeartbeats 8000000 in
theorem lim_use {w : World} {s : Shared} {news : List (Addr × Obj)} {loose : List Str} {mean : ExcName → Option Value} {mg mb : Str → Option Value} {dp un : Nat} {gd : Option (List Code)} {cn : Str} {cs : Scope} {a : Addr} {ccd : Value} {cl : List (Str × Addr)} {outer : List Env} {A₀ : Around} {base h₀ : Heap} {L : Addr} {m : Str → Option Value} {Q E : Value → Shared → Prop}
    (B : Below A₀ base outer h₀) (F : Fr h₀ L s.heap m) (X : (Mine.hd.heap_1_39 w.params).In h₀) (T : Top Mine.hd.view_1_40 loose mean mg mb h₀) (kf : cs.kind = .function) (N : News h₀ L s.heap news) (hd : dp + 10 < 1000)
    (ret : ∀ x d h' tk' k0 k1 k2 k3 k4 k5 k6 k7, Fr h₀ L h' m → News h₀ L h' ((x, instObj 677 d) :: (d, dictOf [ent w "width" k0 (.int 32 1154), ent w "real_digits" k1 (.int 7 1155), ent w "double_digits" k2 (.int 15 1156), ent w "top_exponent" k3 (.int 38 1157), ent w "steps" k4 (.int 1000000 1158), ent w "continuations" k5 (.int 19 1159), ent w "columns" k6 (.int 72 1160), ent w "depth" k7 (.int 40 1161)] 8) :: news) → NeN 2 (x :: d :: news.map (·.1)) → Q (.ref x) { s with heap := h', toks := tk' }) :
    wpAny (model PySem.Challenge.rw_zu0017_01.row.prog w) (ktrTop dp un gd cn cs L a ccd cl outer) (call (.ref 677) []) Q E s := by
  have X0 := X; revert X0; k_fill; intro X0
  have dn : DescN 0 (news.map (·.1)) := trivial
  k_dflt (refine' call_cls ?k1 ?k2 ?k3 ?k4 ?k5 ?k6 ?_; (case k1 => k_asm); (case k2 => k_asm); (case k3 => k_asm); (case k4 => k_is); (case k5 => k_is); (case k6 => k_is); k_whole; intro x' d' h' F' N' l1 l2; (try k_lt l1); (try k_lt2 l2))
  k_dflt (refine' code_def (binds := [(Str.ofString "self", .ref x'), (Str.ofString "width", .int 32 1154), (Str.ofString "real_digits", .int 7 1155), (Str.ofString "double_digits", .int 15 1156), (Str.ofString "top_exponent", .int 38 1157), (Str.ofString "steps", .int 1000000 1158), (Str.ofString "continuations", .int 19 1159), (Str.ofString "columns", .int 72 1160), (Str.ofString "depth", .int 40 1161)]) ?k1 ?k2 ?k3 ?k4 ?k5 ?kA ?kF ?kK ?k6 ?k7 ?k8 ?k9 ?kB ?_ ?c2 ?c3 ?c4 ?c5; (case kA => exact rfl); (case kF => exact rfl); (case kK => exact kf); (case k1 => k_asm); (case k2 => k_asm); (case k3 => k_asm); (case k4 => k_asm); (case k5 => k_asm); (case k6 => k_is); (case k7 => k_is); (case k8 => k_room); (case k9 => exact binds_K (by k_in) rfl (by k_is) rfl rfl (by kernel_rfl)); (case c5 => decide); (case kB => exact locs rfl); (case c2 => exact rfl); (case c3 => exact rfl); (case c4 => exact rfl); k_whole; intro g5 L5 h5 FG5 F5 N5 B5 X5 T5; (try dsimp only); (try k_lift B5); (try k_fold))
  k_with_none
  k_with "k_room" => (((try simp only [depth_mark, depth_under_make, depth_under_kw, depth_in1, depth_deeper, depth_caller]); (try dsimp only [ktrTop]); (try simp only [recursionLimit]); (first | exact rmk (by assumption) (by exact Nat.le_of_ble_eq_true rfl) | exact rmk1 (by assumption) (by exact Nat.le_of_ble_eq_true rfl) | exact rmk2 (by assumption) (by exact Nat.le_of_ble_eq_true rfl) | exact rmk3 (by assumption) (by exact Nat.le_of_ble_eq_true rfl) | exact rmk4 (by assumption) (by exact Nat.le_of_ble_eq_true rfl) | exact rmk0 (by assumption) | omega)))
  k_with "k_mem" => ((change (_ ∈ (_ : List (Addr × Obj))); ktr_member))
  k_with "k_mem" => (((change (_ ∈ ((_ ++ _) : List (Addr × Obj)))); first | (refine List.mem_append.mpr (Or.inl ?_); k_mem) | (refine List.mem_append.mpr (Or.inr ?_); k_mem)))
  k_with "binaryOp LShift int int" => (((refine lshift_int_small (by decide) (by decide) (by decide) ?_); rw [show ((1:Int) * 2 ^ ((32:Int) - 1).toNat) = 2147483648 from rfl]))
  k_with "k_mem" => (((with_reducible rename BackMark => bk9); first | with_reducible assumption | exact .head _ | (refine List.mem_append_left _ ?_; with_reducible assumption) | (refine .tail _ ?_; k_mem)))
  k_with "tb_start" => (first | exact UpdN.head | exact UpdFN.head | (refine' UpdN.tail ?b; (case b => tb_start)) | (refine' UpdFN.tail ?b; (case b => tb_start)))
  k_with "tb_rel" => (first | exact trivial | exact List.forall_mem_nil _ | (refine fmc (?a) (?b); (case a => k_cls); (case b => tb_rel)) | (refine And.intro ?a ?b; (case a => k_cls); (case b => tb_rel)))
  k_with "k_upd" => (first | (refine' UpdN.upd ?u9 ?d9 ?l9; (case u9 => tb_start); (case d9 => assumption); (case l9 => decide)) | (refine' UpdN.upd2 ?u9 ?d9 ?n9 ?l9; (case u9 => tb_start); (case d9 => assumption); (case n9 => assumption); (case l9 => decide)) | (refine' UpdN.updC ?u9 ?n9 ?c9; (case u9 => tb_start); (case n9 => k_asm); (case c9 => tb_rel)))
  k_with "k_lt" => ((rename (∀ p ∈ (_ : List (Addr × Obj)), p.1 < _) => l9); first | ((rename DescN _ _ => d9); k_dflt (replace l9 := desc_consA d9 rfl l9)) | (k_dflt (replace l9 := desc_cons (by assumption) l9); (try simp only [List.map_cons, List.map_nil] at l9)) | skip)
  k_with "k_lt2" => ((rename ((_ : Nat) < _) => l8); first | k_dflt (replace l8 := desc_cons2 (by assumption) l8) | replace l8 := ltN l8)
  k_with "k_in" => ((refine' Frag.In.keeps (K := Mine.hd.heap_1_39 _) ?kI9 (Fr.keep ?kF9); (case kF9 => k_asm); (case kI9 => k_asm)))
  k_with "CompRestP" => ((with_unfolding_all (refine' comp_succ ?hP ?hm ?hc ?hd ?_; (case hP => intro v' hv'; lcg_open hv'; exact rfl); (case hm => k_mem); (case hc => exact rfl); (case hd => exact rfl); intro I' oI' C' oC' D' m' h' tk' E' hC' hx' hy' F' N' off' ne'; (try simp only [LCg.Off3, and_true] at off'))))
  k_with "storeName" => (k_dflt (refine' storeX_any ?F ?N ?_ ?a ?b; (case F => k_asm); (case N => k_asm); (case a => rfl); (case b => rfl); k_whole); intro h' tk' F' N'; (try k_sweep))
  k_with "eval Call Name cons nil" => (refine Call_ ?_)
  k_with "eval Call Attribute cons nil" => (refine MethodCall_ ?_)
  k_with "spliced" => (first | ((with_reducible show wpAny _ _ (spliced (backTo _ (starEach (PySem.Expr.Name _ _ :: _) _))) _ _ _); k_dflt (refine' args_loc ?F ?v ?a ?b ?c ?_; (case F => k_asm); (case a => rfl); (case b => rfl); (case v => rfl); (case c => decide))) | ((with_reducible show wpAny _ _ (spliced (backTo _ (starEach (PySem.Expr.Constant (Const.int _) _ _ :: _) _))) _ _ _); refine args_int ?_) | ((with_reducible show wpAny _ _ (spliced (backTo _ (starEach (PySem.Expr.Constant (Const.str _) _ _ :: _) _))) _ _ _); refine args_str ?_))
  k_with "eval Attribute Name" => (k_dflt (refine' attr_loc ?F ?v ?a ?b ?c ?_; (case F => k_asm); (case a => rfl); (case b => rfl); (case v => rfl); (case c => decide)))
  k_with "eval Subscript" => (first | ((with_reducible show wpAny _ _ (eval (PySem.Expr.Subscript (PySem.Expr.Name _ _) (PySem.Expr.Constant (Const.int _) _ _) _) _) _ _ _); k_dflt (refine' sub_loc_int ?F ?v ?a ?b ?c ?_; (case F => k_asm); (case a => rfl); (case b => rfl); (case v => rfl); (case c => decide))) | ((with_reducible show wpAny _ _ (eval (PySem.Expr.Subscript (PySem.Expr.Name _ _) _ _) _) _ _ _); k_dflt (refine' sub_loc ?F ?v ?a ?b ?c ?_; (case F => k_asm); (case a => rfl); (case b => rfl); (case v => rfl); (case c => decide))))
  iterate 44 (first | (k_unfold; (try dsimp only)) | (k_end; wrow_close) | walk1 | (dsimp only; walk1) | (leave1; (try dsimp only)) | fail "no step")
  (with_reducible rename News h₀ L _ _ => N8)
  (with_reducible rename Fr h₀ L _ _ => F8)
  exact ret x' d' _ _ _ _ _ _ _ _ _ _ F8 (news_sub N8 (fun q hq => hq)) (desc_ne (by assumption))
set_option maxHeartbeats 8000000 in
theorem mem_use {w : World} {s : Shared} {news : List (Addr × Obj)} {t1 t2 : Tok} {loose : List Str} {mean : ExcName → Option Value} {mg mb : Str → Option Value} {dp un : Nat} {gd : Option (List Code)} {cn : Str} {cs : Scope} {a : Addr} {ccd : Value} {cl : List (Str × Addr)} {outer : List Env} {A₀ : Around} {base h₀ : Heap} {L : Addr} {m : Str → Option Value} {Q E : Value → Shared → Prop}
    (B : Below A₀ base outer h₀) (F : Fr h₀ L s.heap m) (X : (Mine.hd.heap_1_39 w.params).In h₀) (T : Top Mine.hd.view_1_40 loose mean mg mb h₀) (kf : cs.kind = .function) (N : News h₀ L s.heap news) (hd : dp + 10 < 1000)
    (ret : ∀ n x d c h' tk' k0 k1 nn, Fr h₀ L h' m → News h₀ L h' ((n, lstN [.none, .none, .none, .none, .none, .none] nn) :: (x, instObj 141 d) :: (d, dictOf [ent w "numeric" k0 (.ref n), ent w "characters" k1 c] 2) :: news) → NeN 3 (n :: x :: d :: news.map (·.1)) → Q (.ref x) { s with heap := h', toks := tk' }) :
    wpAny (model PySem.Challenge.rw_zu0017_01.row.prog w) (ktrTop dp un gd cn cs L a ccd cl outer) (call (.ref 141) [.int 6 t1, .int 0 t2]) Q E s := by
  have X0 := X; revert X0; k_fill; intro X0
  have dn : DescN 0 (news.map (·.1)) := trivial
  k_dflt (refine' call_cls ?k1 ?k2 ?k3 ?k4 ?k5 ?k6 ?_; (case k1 => k_asm); (case k2 => k_asm); (case k3 => k_asm); (case k4 => k_is); (case k5 => k_is); (case k6 => k_is); k_whole; intro x' d' h' F' N' l1 l2; (try k_lt l1); (try k_lt2 l2))
  k_dflt (refine' code_def (binds := [(Str.ofString "self", .ref x'), (Str.ofString "numeric", .int 6 t1), (Str.ofString "characters", .int 0 t2)]) ?k1 ?k2 ?k3 ?k4 ?k5 ?kA ?kF ?kK ?k6 ?k7 ?k8 ?k9 ?kB ?_ ?c2 ?c3 ?c4 ?c5; (case kA => exact rfl); (case kF => exact rfl); (case kK => exact kf); (case k1 => k_asm); (case k2 => k_asm); (case k3 => k_asm); (case k4 => k_asm); (case k5 => k_asm); (case k6 => k_is); (case k7 => k_is); (case k8 => k_room); (case k9 => exact BindsTo.of_eq (by kernel_rfl)); (case c5 => decide); (case kB => exact locs rfl); (case c2 => exact rfl); (case c3 => exact rfl); (case c4 => exact rfl); k_whole; intro g5 L5 h5 FG5 F5 N5 B5 X5 T5; (try dsimp only); (try k_lift B5); (try k_fold))
  k_with "binaryOp Mult ref int" => (k_dflt (refine' KMa.mul (vs := [.none]) ?F ?N ?l ?lo ?hi ?z ?e ?_; (case F => k_asm); (case N => k_asm); (case l => exact ⟨_, ((by k_asm : News _ _ _ _) (_, listOf #[Value.none] 0) (by k_mem)).1, rfl, 0, rfl⟩); (case lo => decide); (case hi => decide); (case z => decide); (case e => rfl)); intro D9 h9 F9 N9 l9; (try k_lt l9))
  repeat (first | (k_unfold; (try dsimp only)) | (k_end; wrow_close) | walk1 | (dsimp only; walk1) | (leave1; (try dsimp only)) | fail "no step")
  (with_reducible rename News h₀ L _ _ => N8)
  (with_reducible rename Fr h₀ L _ _ => F8)
  (with_reducible rename DescN _ _ => dn8)
  have nA := desc_ne dn8
  exact ret _ x' d' _ _ _ _ _ _ F8 (news_sub N8 (fmc (.tail _ (.tail _ (.head _))) ((fmc (.tail _ (.tail _ (.tail _ (.tail _ (.head _))))) ((fmc (.tail _ (.tail _ (.tail _ (.tail _ (.tail _ (.head _)))))) (fun q hq => .tail _ (.tail _ (.tail _ (.tail _ (.tail _ (.tail _ (hq))))))))))))) ⟨fun b hb => nA.2.2.1 b (.tail _ hb), nA.2.2.2.2⟩
-- part R3
set_option maxHeartbeats 8000000 in
theorem run_use {w : World} {s : Shared} {news : List (Addr × Obj)} {mem lim uns ex hd9 : Addr} {loose : List Str} {mean : ExcName → Option Value} {mg mb : Str → Option Value} {dp un : Nat} {gd : Option (List Code)} {cn : Str} {cs : Scope} {a : Addr} {ccd : Value} {cl : List (Str × Addr)} {outer : List Env} {A₀ : Around} {base h₀ : Heap} {L : Addr} {m : Str → Option Value} {Q E : Value → Shared → Prop}
    (B : Below A₀ base outer h₀) (F : Fr h₀ L s.heap m) (X : (Mine.hd.heap_1_39 w.params).In h₀) (T : Top Mine.hd.view_1_40 loose mean mg mb h₀) (kf : cs.kind = .function) (N : News h₀ L s.heap news) (hd : dp + 10 < 1000)
    (ret : ∀ fl fra x d ofl ofra h' tk' k0 k1 k2 k3 k4 k5 k6 k7 k8 k9 k10 k11 k12 k13 k14 k15 tst v0 v1 v2 v3 v4 v5 v6, Fr h₀ L h' m → News h₀ L h' ((fl, ofl) :: (fra, ofra) :: (x, instObj 330 d) :: (d, dictOf [ent w "memory" k0 (.ref mem), ent w "limits" k1 (.ref lim), ent w "units" k2 (.ref uns), ent w "world" k3 .none, ent w "expressions" k4 (.ref ex), ent w "statements" k5 (.ref hd9), ent w "frame" k6 (.ref fra), ent w "depth" k7 v0, ent w "steps" k8 (.int 0 tst), ent w "places" k9 v1, ent w "flows" k10 (.ref fl), ent w "clears" k11 v2, ent w "active" k12 v3, ent w "loops" k13 v4, ent w "operations" k14 v5, ent w "library" k15 v6] 16) :: news) → NeN 4 (fl :: fra :: x :: d :: news.map (·.1)) →
      ofl.IsDictOf (PySem.strKind PySem.Challenge.rw_zu0017_01.row.prog w) [] → (fl == sysModules) = false → ofra.IsDictOf (PySem.strKind PySem.Challenge.rw_zu0017_01.row.prog w) [] → (fra == sysModules) = false → Q (.ref x) { s with heap := h', toks := tk' }) :
    wpAny (model PySem.Challenge.rw_zu0017_01.row.prog w) (ktrTop dp un gd cn cs L a ccd cl outer) (call (.ref 330) [.ref mem, .ref lim, .ref uns, .none, .ref ex, .ref hd9]) Q E s := by
  have X0 := X; revert X0; k_fill; intro X0
  have dn : DescN 0 (news.map (·.1)) := trivial
  k_dflt (refine' call_cls ?k1 ?k2 ?k3 ?k4 ?k5 ?k6 ?_; (case k1 => k_asm); (case k2 => k_asm); (case k3 => k_asm); (case k4 => k_is); (case k5 => k_is); (case k6 => k_is); k_whole; intro x' d' h' F' N' l1 l2; (try k_lt l1); (try k_lt2 l2))
  k_dflt (refine' code_def (binds := [(Str.ofString "self", .ref x'), (Str.ofString "memory", .ref mem), (Str.ofString "limits", .ref lim), (Str.ofString "units", .ref uns), (Str.ofString "world", .none), (Str.ofString "expressions", .ref ex), (Str.ofString "statements", .ref hd9)]) ?k1 ?k2 ?k3 ?k4 ?k5 ?kA ?kF ?kK ?k6 ?k7 ?k8 ?k9 ?kB ?_ ?c2 ?c3 ?c4 ?c5; (case kA => exact rfl); (case kF => exact rfl); (case kK => exact kf); (case k1 => k_asm); (case k2 => k_asm); (case k3 => k_asm); (case k4 => k_asm); (case k5 => k_asm); (case k6 => k_is); (case k7 => k_is); (case k8 => k_room); (case k9 => exact BindsTo.of_eq (by kernel_rfl)); (case c5 => decide); (case kB => exact locs rfl); (case c2 => exact rfl); (case c3 => exact rfl); (case c4 => exact rfl); k_whole; intro g5 L5 h5 FG5 F5 N5 B5 X5 T5; (try dsimp only); (try k_lift B5); (try k_fold))
  k_with_none
  k_with "k_room" => (((try simp only [depth_mark, depth_under_make, depth_under_kw, depth_in1, depth_deeper, depth_caller]); (try dsimp only [ktrTop]); (try simp only [recursionLimit]); (first | exact rmk (by assumption) (by exact Nat.le_of_ble_eq_true rfl) | exact rmk1 (by assumption) (by exact Nat.le_of_ble_eq_true rfl) | exact rmk2 (by assumption) (by exact Nat.le_of_ble_eq_true rfl) | exact rmk3 (by assumption) (by exact Nat.le_of_ble_eq_true rfl) | exact rmk4 (by assumption) (by exact Nat.le_of_ble_eq_true rfl) | exact rmk0 (by assumption) | omega)))
  k_with "k_mem" => ((change (_ ∈ (_ : List (Addr × Obj))); ktr_member))
  k_with "k_mem" => (((change (_ ∈ ((_ ++ _) : List (Addr × Obj)))); first | (refine List.mem_append.mpr (Or.inl ?_); k_mem) | (refine List.mem_append.mpr (Or.inr ?_); k_mem)))
  k_with "binaryOp LShift int int" => (((refine lshift_int_small (by decide) (by decide) (by decide) ?_); rw [show ((1:Int) * 2 ^ ((32:Int) - 1).toNat) = 2147483648 from rfl]))
  k_with "k_mem" => (((with_reducible rename BackMark => bk9); first | with_reducible assumption | exact .head _ | (refine List.mem_append_left _ ?_; with_reducible assumption) | (refine .tail _ ?_; k_mem)))
  k_with "tb_start" => (first | exact UpdN.head | exact UpdFN.head | (refine' UpdN.tail ?b; (case b => tb_start)) | (refine' UpdFN.tail ?b; (case b => tb_start)))
  k_with "tb_rel" => (first | exact trivial | exact List.forall_mem_nil _ | (refine fmc (?a) (?b); (case a => k_cls); (case b => tb_rel)) | (refine And.intro ?a ?b; (case a => k_cls); (case b => tb_rel)))
  k_with "k_upd" => (first | (refine' UpdN.upd ?u9 ?d9 ?l9; (case u9 => tb_start); (case d9 => assumption); (case l9 => decide)) | (refine' UpdN.upd2 ?u9 ?d9 ?n9 ?l9; (case u9 => tb_start); (case d9 => assumption); (case n9 => assumption); (case l9 => decide)) | (refine' UpdN.updC ?u9 ?n9 ?c9; (case u9 => tb_start); (case n9 => k_asm); (case c9 => tb_rel)))
  k_with "k_lt" => ((rename (∀ p ∈ (_ : List (Addr × Obj)), p.1 < _) => l9); first | ((rename DescN _ _ => d9); k_dflt (replace l9 := desc_consA d9 rfl l9)) | (k_dflt (replace l9 := desc_cons (by assumption) l9); (try simp only [List.map_cons, List.map_nil] at l9)) | skip)
  k_with "k_lt2" => ((rename ((_ : Nat) < _) => l8); first | k_dflt (replace l8 := desc_cons2 (by assumption) l8) | replace l8 := ltN l8)
  k_with "k_in" => ((refine' Frag.In.keeps (K := Mine.hd.heap_1_39 _) ?kI9 (Fr.keep ?kF9); (case kF9 => k_asm); (case kI9 => k_asm)))
  k_with "CompRestP" => ((with_unfolding_all (refine' comp_succ ?hP ?hm ?hc ?hd ?_; (case hP => intro v' hv'; lcg_open hv'; exact rfl); (case hm => k_mem); (case hc => exact rfl); (case hd => exact rfl); intro I' oI' C' oC' D' m' h' tk' E' hC' hx' hy' F' N' off' ne'; (try simp only [LCg.Off3, and_true] at off'))))
  k_with "storeName" => (k_dflt (refine' storeX_any ?F ?N ?_ ?a ?b; (case F => k_asm); (case N => k_asm); (case a => rfl); (case b => rfl); k_whole); intro h' tk' F' N'; (try k_sweep))
  k_with "eval Call Name cons nil" => (refine Call_ ?_)
  k_with "eval Call Attribute cons nil" => (refine MethodCall_ ?_)
  k_with "spliced" => (first | ((with_reducible show wpAny _ _ (spliced (backTo _ (starEach (PySem.Expr.Name _ _ :: _) _))) _ _ _); k_dflt (refine' args_loc ?F ?v ?a ?b ?c ?_; (case F => k_asm); (case a => rfl); (case b => rfl); (case v => rfl); (case c => decide))) | ((with_reducible show wpAny _ _ (spliced (backTo _ (starEach (PySem.Expr.Constant (Const.int _) _ _ :: _) _))) _ _ _); refine args_int ?_) | ((with_reducible show wpAny _ _ (spliced (backTo _ (starEach (PySem.Expr.Constant (Const.str _) _ _ :: _) _))) _ _ _); refine args_str ?_))
  k_with "eval Attribute Name" => (k_dflt (refine' attr_loc ?F ?v ?a ?b ?c ?_; (case F => k_asm); (case a => rfl); (case b => rfl); (case v => rfl); (case c => decide)))
  k_with "eval Subscript" => (first | ((with_reducible show wpAny _ _ (eval (PySem.Expr.Subscript (PySem.Expr.Name _ _) (PySem.Expr.Constant (Const.int _) _ _) _) _) _ _ _); k_dflt (refine' sub_loc_int ?F ?v ?a ?b ?c ?_; (case F => k_asm); (case a => rfl); (case b => rfl); (case v => rfl); (case c => decide))) | ((with_reducible show wpAny _ _ (eval (PySem.Expr.Subscript (PySem.Expr.Name _ _) _ _) _) _ _ _); k_dflt (refine' sub_loc ?F ?v ?a ?b ?c ?_; (case F => k_asm); (case a => rfl); (case b => rfl); (case v => rfl); (case c => decide))))
  repeat (first | (k_unfold; (try dsimp only)) | (k_end; wrow_close) | walk1 | (dsimp only; walk1) | (leave1; (try dsimp only)) | fail "no step")
  (with_reducible rename News h₀ L _ _ => N8)
  (with_reducible rename Fr h₀ L _ _ => F8)
  (with_reducible rename DescN _ _ => dn8)
  have nA := desc_ne dn8
  exact ret _ _ x' d' _ _ _ _ _ _ _ _ _ _ _ _ _ _ _ _ _ _ _ _ _ _ _ _ _ _ _ _ F8 (news_sub N8 (fmc (.tail _ (.tail _ (.tail _ (.tail _ (.head _))))) ((fmc (.tail _ (.tail _ (.tail _ (.tail _ (.tail _ (.tail _ (.head _))))))) ((fmc (.tail _ (.tail _ (.tail _ (.tail _ (.tail _ (.tail _ (.tail _ (.head _)))))))) ((fmc (.tail _ (.tail _ (.tail _ (.tail _ (.tail _ (.tail _ (.tail _ (.tail _ (.head _))))))))) (fun q hq => .tail _ (.tail _ (.tail _ (.tail _ (.tail _ (.tail _ (.tail _ (.tail _ (.tail _ (hq)))))))))))))))))) ⟨fun b hb => nA.2.2.2.2.1 b (.tail _ hb), fun b hb => nA.2.2.2.2.2.2.1 b hb, nA.2.2.2.2.2.2.2⟩ (by assumption) (by assumption) (by assumption) (by assumption)
-- part R4
theorem ne_cat : ∀ {m n : Nat} {l : List Addr}, NeN m l → NeN n (l.drop m) → NeN (m + n) l
  | 0, n, l, _, h => by rw [Nat.zero_add]; exact h
  | m + 1, n, [], _, _ => ne_nil
  | m + 1, n, a :: r, hD, hN => by
    rw [Nat.succ_add]
    exact ⟨hD.1, ne_cat hD.2 hN⟩
theorem comp_succ {prog : Program} {w : World} {A : Around} {s : Shared} {h₀ : Heap} {L : Addr} {m : Str → Option Value} {env : Env} {elt : PySem.Expr} {x x₂ : Str} {scope : Scope} {cl : List (Str × Addr)} {S : List (Addr × Obj) → Prop} {P : Nat → Value → Prop} {Fin : List Value → List (Addr × Obj) → Prop} {k i : Nat} {ys : List Value} {news : List (Addr × Obj)} {t : Addr} {ot : Obj} {v₁ v₂ : Value} {nt : Nat}
    (hP : ∀ v, P i v → v = .ref t) (hm : (t, ot) ∈ news) (hc : ot.cls = .type "tuple") (hd : ot.data = .seq #[v₁, v₂] nt)
    (h : ∀ I oI C oC D m₂ h tk (E' : Value → Shared → Prop), LCg.NsObj oC m₂ → m₂ x = some v₁ → m₂ x₂ = some v₂ → Fr h₀ L h m → News h₀ L h ((I, oI) :: (C, oC) :: (D, LCg.lst ys) :: news) → LCg.Off3 I C D news → ((@Ne Nat I C) ∧ (@Ne Nat I D) ∧ (@Ne Nat C D)) →
      wpAny (model prog w) A (eval elt (compEnvC scope cl C env)) (LCg.CompEnd h₀ L m { s with heap := h, toks := tk } I oI C oC D (LCg.lst ys) S (fun y news' => LCp.CompRestP prog w A h₀ L m env elt x x₂ scope cl s S P Fin k (i + 1) (ys ++ [y]) news')) E' { s with heap := h, toks := tk }) :
    LCp.CompRestP prog w A h₀ L m env elt x x₂ scope cl s S P Fin (k + 1) i ys news :=
  LCp.CompRestP.succ fun v hv => ⟨t, ot, v₁, v₂, nt, hP v hv, hm, hc, hd, h⟩
theorem Ends.use2 {w : World} {f : Addr} {nd : Nat} {vs : List Value} {s : Shared} {e : St} {r : Rw} {u : Mv} {ex news rest : List (Addr × Obj)} {P : St → Prop} {loose : List Str} {mean : ExcName → Option Value} {mg mb : Str → Option Value} {dp un : Nat} {gd : Option (List Code)} {cn : Str} {cs : Scope} {a : Addr} {ccd : Value} {cl : List (Str × Addr)} {outer : List Env} {A₀ : Around} {base h₀ : Heap} {L : Addr} {m : Str → Option Value} {Q E : Value → Shared → Prop}
    (B : Below A₀ base outer h₀) (F : Fr h₀ L s.heap m) (X : (Mine.hd.heap_1_39 w.params).In h₀) (T : Top Mine.hd.view_1_40 loose mean mg mb h₀) (k : cs.kind = .function) (N : News h₀ L s.heap news)
    (D : Ends w f nd vs s e r u ex P) (sub : ∀ q ∈ ex ++ lit w e (r.upd u), q ∈ news) (sur : ∀ q ∈ rest, q ∈ news) (h1 : ∀ q ∈ rest, lone q.2 = true) (h2 : ∀ q ∈ ex ++ lit w e (r.upd u), lone q.2 = false) (hd : dp + nd < 1000)
    (ret : ∀ v h' tk' e' u' led, Fr h₀ L h' m → News h₀ L h' led → (∀ q ∈ rest, q ∈ led) → (∀ q ∈ lit w e' (r.upd u'), q ∈ led) → P e' → (r.run, instObj 330 r.dr) ∈ led → (r.dr, runX w r (.ref u'.hd) (.int u'.st u'.tst) (.ref u'.fl)) ∈ led → (r.fra, r.ofra) ∈ led → (r.mem, instObj 141 r.dm) ∈ led → (r.dm, memD w r) ∈ led → Q v { s with heap := h', toks := tk' }) :
    wpAny (model PySem.Challenge.rw_zu0017_01.row.prog w) (ktrTop dp un gd cn cs L a ccd cl outer) (call (.ref f) vs) Q E s :=
  Ends.use B F X T k N D sub sur h1 h2 hd fun v h' tk' e' u' hF hN hp => ret v h' tk' e' u' _ hF hN (fun q hq => List.mem_append_left _ hq) (fun q hq => List.mem_append_right _ hq) hp (List.mem_append_right _ (.head _)) (List.mem_append_right _ (.tail _ (.head _))) (List.mem_append_right _ (.tail _ (.tail _ (.tail _ (.tail _ (.head _)))))) (List.mem_append_right _ (.tail _ (.tail _ (.tail _ (.tail _ (.tail _ (.head _))))))) (List.mem_append_right _ (.tail _ (.tail _ (.tail _ (.tail _ (.tail _ (.tail _ (.head _))))))))
-- part T40
theorem look_use {K : Frag} {f : Addr} {name qual name' qual' : Str} {params params' : Arguments} {body body' : List Stmt} {scope scope' : Scope} {dV kV doc pm ct cdv oc dV' kV' doc' pm' ct' cdv' oc' : Value} {an od an' od' : Option Addr} {osl osl' : Array (Option Value)} (h1 : K.lookup f = some ⟨oc, od, .func (fnOf name qual params body scope dV kV doc pm an cdv ct), osl⟩)
    (h2 : K.lookup f = some ⟨oc', od', .func (fnOf name' qual' params' body' scope' dV' kV' doc' pm' an' cdv' ct'), osl'⟩) {P : Prop} (k : qual = qual' → body = body' → scope = scope' → cdv = cdv' → P) : P := by
  have ef := Data.func.inj (Obj.mk.inj (Option.some.inj (h1.symm.trans h2))).2.2.1
  exact k (congrArg FuncData.qualname ef) (FuncBody.stmts.inj (congrArg FuncData.body ef)) (congrArg FuncData.scope ef) (congrArg FuncData.code ef)
theorem drop_six {α : Type} {a b c d e f a' b' c' d' e' f' : α} {t t' : List α} (h : a :: b :: c :: d :: e :: f :: t = a' :: b' :: c' :: d' :: e' :: f' :: t') : t = t' := congrArg (List.drop 6) h
local macro_rules | `(tactic| passes_own) => `(tactic| assumption)
set_option maxHeartbeats 8000000 in
theorem lawrun_back (w : World) {s : Shared} {h₁ gM h₀ base : Heap} {tk : Nat} {LM L a rows date un du stl : Addr} {loose : List Str} {mean : ExcName → Option Value} {mg mb : Str → Option Value} {dp un' : Nat} {gd : Option (List Code)} {cn : Str} {cs : Scope} {ccd : Value} {cl : List (Str × Addr)} {outer : List Env} {m : Str → Option Value} {I J K : Int} {d1 d2 d3 : Tok} {rs : List Row} {cm : List Cmd} {pa pb k₀ : Nat} {e0 : St} {r : Rw} {u : Mv} {oh ofl : Obj} {qu : Un} {ln : Nat} {Rl keep : List (Addr × Obj)}
    (sh : Shape rs pa pb) (hk0 : k₀ ≤ 50) (hruns : RunsTo cm pb e0 k₀ 0 ⟨I, J, K, 0, 0, 0⟩) (hd : dp + 200 < 1000) (h0 : u.st = 0) (mR0 : (r.run, instObj 330 r.dr) ∈ Rl) (mR1 : (r.dr, runX w r (.ref u.hd) (.int u.st u.tst) (.ref u.fl)) ∈ Rl) (mR2 : (r.ex, r.oex) ∈ Rl) (mR3 : (r.ope, r.oope) ∈ Rl) (mR4 : (r.mem, instObj 141 r.dm) ∈ Rl) (mR5 : (r.dm, memD w r) ∈ Rl) (mR6 : (r.lim, instObj 677 r.dl) ∈ Rl) (mR7 : (r.dl, limX w r (.int 1000000 u.t4)) ∈ Rl) (mR8 : (u.hd, oh) ∈ Rl) (mR9 : (u.fl, ofl) ∈ Rl) (mR10 : (un, instObj 698 du) ∈ Rl) (mR11 : (du, unitD w qu stl) ∈ Rl) (mR12 : (stl, lstN (rs.map fun q => .ref q.r) ln) ∈ Rl) (hdate : (date, tup [.int I d1, .int J d2, .int K d3]) ∈ Rl) (hkeep : ∀ p ∈ keep, p ∈ Rl) (hlone : ∀ q ∈ keep, lone q.2 = true)
    (hrw : ∀ h' : Heap, (∀ b o, gM.get? b = some o → h'.get? b = some o) → (∀ p ∈ Rl, h'.get? p.1 = some p.2) → RowsAre h' rs cm)
    (hex : r.oex.IsDictOf (PySem.strKind PySem.Challenge.rw_zu0017_01.row.prog w) exKvs) (lex : (r.ex == sysModules) = false) (hope : r.oope.IsDictOf (PySem.intKind PySem.Challenge.rw_zu0017_01.row.prog w) opKvs) (lope : (r.ope == sysModules) = false) (hfra : r.ofra.IsDictOf (PySem.strKind PySem.Challenge.rw_zu0017_01.row.prog w) []) (lfra : (r.fra == sysModules) = false) (hoh : oh.IsDictOf (PySem.strKind PySem.Challenge.rw_zu0017_01.row.prog w) (merged ctlKvs asgKvs)) (loh : (u.hd == sysModules) = false) (hofl : ofl.IsDictOf (PySem.strKind PySem.Challenge.rw_zu0017_01.row.prog w) []) (lofl : (u.fl == sysModules) = false)
    (NE2 : NeN 2 (r.nums :: r.fra :: Rl.map (·.1))) (sep : Sep r) (offR : OffR r [(u.hd, oh), (u.fl, ofl), (un, instObj 698 du), (du, unitD w qu stl), (stl, lstN (rs.map fun q => .ref q.r) ln)]) (hfl : ∀ b ∈ [r.nums, r.fra, r.run, r.dr, r.ex, r.ope, r.mem, r.dm, r.lim, r.dl, u.hd, un, du, stl], @Ne Nat b u.fl)
    (FM : Fr h₀ L gM m) (BM : Below (ktrTop dp un' gd cn cs L a ccd cl outer) base (envX cn cs L a ccd cl :: outer) gM) (XM : (Mine.hd.heap_1_39 w.params).In gM) (TM : Top Mine.hd.view_1_40 loose mean mg mb gM) (N8 : News gM LM h₁ ((r.nums, lstN [.none, .none, .none, .none, .none, .none] r.nn) :: (r.fra, r.ofra) :: Rl)) (F8 : Fr gM LM h₁ (fun y => if y = Str.ofString "run" then some (.ref r.run) else if y = Str.ofString "handlers" then some (.ref u.hd) else if y = Str.ofString "unit" then some (.ref un) else List.lookup y [(Str.ofString "date", .ref date), (Str.ofString "rows", .ref rows)]))
    {name qual : Str} {params : Arguments} {s0 s1 s2 s3 s4 s5 : Stmt} {tail : List Stmt} {scope : Scope} {dV kV doc pm ct cdv oc : Value} {an od : Option Addr} {osl : Array (Option Value)} (hb : (Mine.hd.heap_1_39 w.params).lookup 743 = some ⟨oc, od, .func (fnOf name qual params (s0 :: s1 :: s2 :: s3 :: s4 :: s5 :: tail) scope dV kV doc pm an cdv ct), osl⟩)
    {Q : Flow → Shared → Prop} {E : Value → Shared → Prop} (hE : PassesOwn (model PySem.Challenge.rw_zu0017_01.row.prog w) ((ktrTop dp un' gd cn cs L a ccd cl outer).deeper (envOf qual scope LM 743 cdv)) (envOf qual scope LM 743 cdv) E)
    (hret : ∀ (q : Addr) (tD tW : Tok) (h' : Heap) (tk' : Nat) (led : List (Addr × Obj)) (m' : Str → Option Value), Fr gM LM h' m' → News gM LM h' led → (q, tup [.int e0.D tD, .int e0.W tW]) ∈ led → (∀ p ∈ keep, p ∈ led) → Q (.ret (.ref q)) { s with heap := h', toks := tk' }) :
    wpAny (model PySem.Challenge.rw_zu0017_01.row.prog w) ((ktrTop dp un' gd cn cs L a ccd cl outer).deeper (envOf qual scope LM 743 cdv)) (execs tail (envOf qual scope LM 743 cdv)) Q E { s with heap := h₁, toks := tk } := by
  revert XM; k_fill; intro XM
  refine' look_use hb ?h2 ?k9
  case h2 => k_is
  intro e1 e2 e3 e4
  have e5 := drop_six e2
  clear hb e2
  subst e1
  subst e3
  subst e4
  subst e5
  have bk9 : BackMark := trivial
  (try dsimp only)
  (with_reducible show wpAny _ _ _ _ _ _)
  (try k_fold)
  k_with_none
  k_with "k_room" => (((try simp only [depth_mark, depth_under_make, depth_under_kw, depth_in1, depth_deeper, depth_caller]); (try dsimp only [ktrTop]); (try simp only [recursionLimit]); (first | exact rmk (by assumption) (by exact Nat.le_of_ble_eq_true rfl) | exact rmk1 (by assumption) (by exact Nat.le_of_ble_eq_true rfl) | exact rmk2 (by assumption) (by exact Nat.le_of_ble_eq_true rfl) | exact rmk3 (by assumption) (by exact Nat.le_of_ble_eq_true rfl) | exact rmk4 (by assumption) (by exact Nat.le_of_ble_eq_true rfl) | exact rmk0 (by assumption) | omega)))
  k_with "k_mem" => ((change (_ ∈ (_ : List (Addr × Obj))); ktr_member))
  k_with "k_mem" => (((change (_ ∈ ((_ ++ _) : List (Addr × Obj)))); first | (refine List.mem_append.mpr (Or.inl ?_); k_mem) | (refine List.mem_append.mpr (Or.inr ?_); k_mem)))
  k_with "binaryOp LShift int int" => (((refine lshift_int_small (by decide) (by decide) (by decide) ?_); rw [show ((1:Int) * 2 ^ ((32:Int) - 1).toNat) = 2147483648 from rfl]))
  k_with "k_mem" => (((with_reducible rename BackMark => bk9); first | with_reducible assumption | exact .head _ | (refine List.mem_append_left _ ?_; with_reducible assumption) | (refine .tail _ ?_; k_mem)))
  k_with "tb_start" => (first | exact UpdN.head | exact UpdFN.head | (refine' UpdN.tail ?b; (case b => tb_start)) | (refine' UpdFN.tail ?b; (case b => tb_start)))
  k_with "tb_rel" => (first | exact trivial | exact List.forall_mem_nil _ | (refine fmc (?a) (?b); (case a => k_cls); (case b => tb_rel)) | (refine And.intro ?a ?b; (case a => k_cls); (case b => tb_rel)))
  k_with "k_upd" => (first | (refine' UpdN.upd ?u9 ?d9 ?l9; (case u9 => tb_start); (case d9 => assumption); (case l9 => decide)) | (refine' UpdN.upd2 ?u9 ?d9 ?n9 ?l9; (case u9 => tb_start); (case d9 => assumption); (case n9 => assumption); (case l9 => decide)) | (refine' UpdN.updC ?u9 ?n9 ?c9; (case u9 => tb_start); (case n9 => k_asm); (case c9 => tb_rel)))
  k_with "k_lt" => ((rename (∀ p ∈ (_ : List (Addr × Obj)), p.1 < _) => l9); first | ((rename DescN _ _ => d9); k_dflt (replace l9 := desc_consA d9 rfl l9)) | (k_dflt (replace l9 := desc_cons (by assumption) l9); (try simp only [List.map_cons, List.map_nil] at l9)) | skip)
  k_with "k_lt2" => ((rename ((_ : Nat) < _) => l8); first | k_dflt (replace l8 := desc_cons2 (by assumption) l8) | replace l8 := ltN l8)
  k_with "k_in" => ((refine' Frag.In.keeps (K := Mine.hd.heap_1_39 _) ?kI9 (Fr.keep ?kF9); (case kF9 => k_asm); (case kI9 => k_asm)))
  k_with "CompRestP" => ((with_unfolding_all (refine' comp_succ ?hP ?hm ?hc ?hd ?_; (case hP => intro v' hv'; lcg_open hv'; exact rfl); (case hm => k_mem); (case hc => exact rfl); (case hd => exact rfl); intro I' oI' C' oC' D' m' h' tk' E' hC' hx' hy' F' N' off' ne'; (try simp only [LCg.Off3, and_true] at off'))))
  k_with "storeName" => (k_dflt (refine' storeX_any ?F ?N ?_ ?a ?b; (case F => k_asm); (case N => k_asm); (case a => rfl); (case b => rfl); k_whole); intro h' tk' F' N'; (try k_sweep))
  k_with "eval Call Name cons nil" => (refine Call_ ?_)
  k_with "eval Call Attribute cons nil" => (refine MethodCall_ ?_)
  k_with "spliced" => (first | ((with_reducible show wpAny _ _ (spliced (backTo _ (starEach (PySem.Expr.Name _ _ :: _) _))) _ _ _); k_dflt (refine' args_loc ?F ?v ?a ?b ?c ?_; (case F => k_asm); (case a => rfl); (case b => rfl); (case v => rfl); (case c => decide))) | ((with_reducible show wpAny _ _ (spliced (backTo _ (starEach (PySem.Expr.Constant (Const.int _) _ _ :: _) _))) _ _ _); refine args_int ?_) | ((with_reducible show wpAny _ _ (spliced (backTo _ (starEach (PySem.Expr.Constant (Const.str _) _ _ :: _) _))) _ _ _); refine args_str ?_))
  k_with "eval Attribute Name" => (k_dflt (refine' attr_loc ?F ?v ?a ?b ?c ?_; (case F => k_asm); (case a => rfl); (case b => rfl); (case v => rfl); (case c => decide)))
  k_with "eval Subscript" => (first | ((with_reducible show wpAny _ _ (eval (PySem.Expr.Subscript (PySem.Expr.Name _ _) (PySem.Expr.Constant (Const.int _) _ _) _) _) _ _ _); k_dflt (refine' sub_loc_int ?F ?v ?a ?b ?c ?_; (case F => k_asm); (case a => rfl); (case b => rfl); (case v => rfl); (case c => decide))) | ((with_reducible show wpAny _ _ (eval (PySem.Expr.Subscript (PySem.Expr.Name _ _) _ _) _) _ _ _); k_dflt (refine' sub_loc ?F ?v ?a ?b ?c ?_; (case F => k_asm); (case a => rfl); (case b => rfl); (case v => rfl); (case c => decide))))
  iterate 8 (first | (k_unfold; (try dsimp only)) | (k_end; wrow_close) | walk1 | (dsimp only; walk1) | (leave1; (try dsimp only)) | fail "no step")
  refine range_inv (n := 6) (FiInv w ⟨I, J, K, 0, 0, 0⟩ r.nums r.fra u.fl r.nn Rl _) (by rfl) (by assumption) (by decide) (by k_asm) (news_sub (by k_asm) (fun q hq => by rw [List.append_nil] at hq; exact hq)) ⟨_, _, r.ofra, [], [], funext frI_start, rfl, hfra, .zero rfl, by rw [List.append_nil]; exact NE2, fun _ h => nomatch h⟩ ?_ ?_
  · rintro i t m₁ nx h tk5 I5 hi hoff ⟨a?, its, ofr, kvs, pc, rfl, rfl, hd5, fi5, ne5, nf5⟩ F5 N5
    have hoff0 := hoff
    generalize itR ((i : Int) + 1) ((6 : Int) - ((i : Int) + 1)) = oI at N5 ⊢
    have ni := ne_cons hoff ne5
    simp only [List.map_cons] at ni
    have dn5 := desc_zero N5
    simp only [List.map_cons] at dn5
    (with_reducible show wpAny _ _ _ _ _ _)
    k_fold
    have hdt : IsTup h date #[.int I d1, .int J d2, .int K d3] := ⟨_, (N5 (date, tup [.int I d1, .int J d2, .int K d3]) (by k_mem)).1, rfl, 0, rfl⟩
    k_with "subscriptTail Constant str Name str int" => (k_dflt (refine name_at hi ?_ (by with_unfolding_all rfl) (by intro _; with_unfolding_all rfl)))
    k_with "setItem ref str" => ((with_reducible show wpAny _ _ (setItem (Value.ref _) (Value.str (Str.ofString _) _) _) _ _ _); k_dflt (refine' kda_set (knd := PySem.strKind _ _) ?F ?N ?U hd5 (strKind_is _ _ _ _) ?z ?_; (case F => k_asm); (case N => k_asm); (case U => (refine' UpdFN.toF2 ?u9 ?d9 ?n9 ?l9; (case u9 => tb_start); (case d9 => assumption); (case n9 => assumption); (case l9 => decide))); (case z => (rw [sizeLine_eq]; have := fi5.kvs; omega))); intro h' o' F' N' hd'; (try dsimp only at N'))
    k_with "subscriptTail BinOp Name Add Tuple Name ref int" => (k_dflt (refine sum_item hi (by k_asm) (by k_mem) ?_ (by with_unfolding_all rfl)); intro k9)
    k_with "call ref cons nil" => ((with_reducible show wpAny _ _ (call (Value.ref 131) _) _ _ _); k_dflt (refine' mstore_use2 (k := (i : Int)) ?wB ?wF ?wX ?wT ?wk ?wN ?wS ?hk ?hk2 ?hlen ?U ?hD ?hi ?whd ?_; (case wB => k_asm); (case wF => k_asm); (case wX => k_asm); (case wT => k_asm); (case wk => exact rfl); (case wN => k_asm); (case wS => (refine sub_cons ?_ (sub_cons ?_ (sub_cons ?_ (sub_cons ?_ sub_nil))) <;> k_mem)); (case hk => exact Int.natCast_nonneg _); (case hk2 => omega); (case hlen => exact fi5.len); (case U => tb_start); (case hD => (first | assumption | exact ne_join (by assumption) (by assumption))); (case hi => decide); (case whd => ((try simp only [depth_mark, depth_deeper]); (try dsimp only [ktrTop]); (try dsimp only [Ex.depth]); (first | exact rmk (by assumption) (by exact Nat.le_of_ble_eq_true rfl) | exact rmk1 (by assumption) (by exact Nat.le_of_ble_eq_true rfl) | exact rmk2 (by assumption) (by exact Nat.le_of_ble_eq_true rfl) | exact rmk3 (by assumption) (by exact Nat.le_of_ble_eq_true rfl) | exact rmk4 (by assumption) (by exact Nat.le_of_ble_eq_true rfl) | exact rmk0 (by assumption) | omega))); intro v9 h9' tk9 q9 t9 t8 F9 N9 ne9; (try simp only [List.map_cons, List.map_nil] at ne9); (have dn9 := desc_zero N9); (try simp only [List.map_cons, List.map_nil] at dn9)))
    repeat (first | (k_unfold; (try dsimp only)) | (k_end; wrow_close) | walk1 | (dsimp only; walk1) | (leave1; (try dsimp only)) | fail "no step")
    (with_reducible rename NeN _ _ => ne9)
    (with_reducible rename Fr _ _ _ _ => F9)
    (with_reducible rename News _ _ _ _ => N9)
    exact fi_end F9 N9 (.tail _ (.tail _ (.tail _ (.tail _ (.tail _ (.tail _ (.tail _ (.head _)))))))) (.tail _ (.tail _ (.tail _ (.tail _ (.tail _ (.tail _ (.tail _ (.tail _ (.head _))))))))) (.tail _ (.tail _ (.tail _ (.tail _ (.tail _ (.tail _ (.tail _ (.tail _ (.tail _ (.head _)))))))))) (fun x hx => .tail _ (.tail _ (.tail _ (.tail _ (.tail _ (.tail _ (.tail _ (.tail _ (.tail _ (.tail _ (hx))))))))))) (.tail _ (.tail _ (.tail _ (.tail _ (.tail _ (.head _)))))) (.head _) (funext frI_next) hd' fi5 ne5 nf5 hoff0 (fmc (ne9.2.2.2.2.2.1 _ (.tail _ (.head _))) ((fmc (ne9.2.2.2.2.2.1 _ (.tail _ (.tail _ (.head _)))) ((fmc (ne9.2.2.2.2.2.1 _ (.tail _ (.tail _ (.tail _ (.head _))))) ((fmc (ne9.2.2.2.2.2.1 _ (.tail _ (.tail _ (.tail _ (.tail _ (List.mem_map_of_mem (f := (·.1)) (List.mem_append_left _ mR9))))))) (List.forall_mem_nil _)))))))) (fmc (ne9.1 _ (.tail _ (.tail _ (.tail _ (.tail _ (.tail _ (.tail _ (.head _)))))))) ((fmc (ne9.1 _ (.tail _ (.tail _ (.tail _ (.tail _ (.tail _ (.tail _ (.tail _ (.head _))))))))) ((fmc (ne9.1 _ (.tail _ (.tail _ (.tail _ (.tail _ (.tail _ (.tail _ (.tail _ (.tail _ (.head _)))))))))) ((fmc (ne9.1 _ (.tail _ (.tail _ (.tail _ (.tail _ (.tail _ (.tail _ (.tail _ (.tail _ (.tail _ (List.mem_map_of_mem (f := (·.1)) (List.mem_append_left _ mR9)))))))))))) (List.forall_mem_nil _))))))))
  · rintro m₁ nx h tk5 ⟨a?, its, ofr, kvs, pc, rfl, rfl, hd5, fi5, ne5, nf5⟩ F5 N5
    obtain ⟨c, p, ta, tb, tc, td, te, uu, rfl, rfl, hpc⟩ := fi5.six
    have hrows : RowsAre h rs cm := hrw h F5.keep fun p hp => (N5 _ (.tail _ (.tail _ (List.mem_append_left _ hp)))).1
    k_with "call ref cons nil" => ((with_reducible show wpAny _ _ (call (Value.ref 512) _) _ _ _); k_dflt (refine' Ends.use2 (rest := keep) (e := ⟨I, J, K, 0, 0, 0⟩) (r := { r with ofra := ofr, p := p, u := uu, ta := ta, tb := tb, tc := tc }) (u := { u with c := c, td := td, te := te }) ?wB ?wF ?wX ?wT ?wk ?wN (rununit_ok w ⟨I, J, K, 0, 0, 0⟩ { r with ofra := ofr, p := p, u := uu, ta := ta, tb := tb, tc := tc } { u with c := c, td := td, te := te } ⟨hex, lex, hope, lope, hd5, lfra⟩ ⟨sep.a1, sep.a2, sep.a3, sep.a4, sep.a5, sep.b1, sep.b2, sep.b3⟩ hoh loh rfl rfl rfl rfl hofl lofl h0 _ (rs := rs) (cm := cm) sh hrows.len hrows.is hrows.at_ (k₀ := k₀) hk0 hruns ?oR ?oF) ?sub ?sur ?h1 ?h2 ?whd ?_; (case wB => k_asm); (case wF => k_asm); (case wX => k_asm); (case wT => k_asm); (case wk => exact rfl); (case wN => k_asm); (case oR => exact offR); (case oF => exact List.forall_mem_append.mpr ⟨fmc (hfl _ (.tail _ (.tail _ (.tail _ (.tail _ (.tail _ (.tail _ (.tail _ (.tail _ (.tail _ (.tail _ (.head _)))))))))))) ((fmc (hfl _ (.tail _ (.tail _ (.tail _ (.tail _ (.tail _ (.tail _ (.tail _ (.tail _ (.tail _ (.tail _ (.tail _ (.head _))))))))))))) ((fmc (hfl _ (.tail _ (.tail _ (.tail _ (.tail _ (.tail _ (.tail _ (.tail _ (.tail _ (.tail _ (.tail _ (.tail _ (.tail _ (.head _)))))))))))))) ((fmc (hfl _ (.tail _ (.tail _ (.tail _ (.tail _ (.tail _ (.tail _ (.tail _ (.tail _ (.tail _ (.tail _ (.tail _ (.tail _ (.tail _ (.head _))))))))))))))) (List.forall_mem_nil _))))))), lit_all (P := fun q => @Ne Nat q.1 u.fl) (fmc (hfl _ (.tail _ (.tail _ (.head _)))) ((fmc (hfl _ (.tail _ (.tail _ (.tail _ (.head _))))) ((fmc (hfl _ (.tail _ (.tail _ (.tail _ (.tail _ (.head _)))))) ((fmc (hfl _ (.tail _ (.tail _ (.tail _ (.tail _ (.tail _ (.head _))))))) ((fmc (hfl _ (.tail _ (.tail _ (.tail _ (.tail _ (.tail _ (.tail _ (.head _)))))))) ((fmc (hfl _ (.tail _ (.tail _ (.tail _ (.tail _ (.tail _ (.tail _ (.tail _ (.head _))))))))) ((fmc (hfl _ (.tail _ (.tail _ (.tail _ (.tail _ (.tail _ (.tail _ (.tail _ (.tail _ (.head _)))))))))) ((fmc (hfl _ (.tail _ (.tail _ (.tail _ (.tail _ (.tail _ (.tail _ (.tail _ (.tail _ (.tail _ (.head _))))))))))) (List.forall_mem_nil _)))))))))))))))) (hfl _ (.head _)) (hfl _ (.tail _ (.head _))) (fun x => ⟨nf5 _ (hpc x).1, nf5 _ (hpc x).2⟩)⟩); (case sub => exact List.forall_mem_append.mpr ⟨fmc (.tail _ (.tail _ (List.mem_append_left _ mR8))) ((fmc (.tail _ (.tail _ (List.mem_append_left _ mR9))) ((fmc (.tail _ (.tail _ (List.mem_append_left _ mR10))) ((fmc (.tail _ (.tail _ (List.mem_append_left _ mR11))) ((fmc (.tail _ (.tail _ (List.mem_append_left _ mR12))) (List.forall_mem_nil _))))))))), lit_all (P := fun q => q ∈ _) (fmc (.tail _ (.tail _ (List.mem_append_left _ mR0))) ((fmc (.tail _ (.tail _ (List.mem_append_left _ mR1))) ((fmc (.tail _ (.tail _ (List.mem_append_left _ mR2))) ((fmc (.tail _ (.tail _ (List.mem_append_left _ mR3))) ((fmc (.tail _ (.tail _ (List.mem_append_left _ mR4))) ((fmc (.tail _ (.tail _ (List.mem_append_left _ mR5))) ((fmc (.tail _ (.tail _ (List.mem_append_left _ mR6))) ((fmc (.tail _ (.tail _ (List.mem_append_left _ mR7))) (List.forall_mem_nil _)))))))))))))))) (.head _) (.tail _ (.head _)) (fun x => ⟨.tail _ (.tail _ (List.mem_append_right _ (hpc x).1)), .tail _ (.tail _ (List.mem_append_right _ (hpc x).2))⟩)⟩); (case sur => exact fun p hp => .tail _ (.tail _ (List.mem_append_left _ (hkeep p hp)))); (case h1 => exact hlone); (case h2 => exact ex_lone (r := Rw.upd { r with ofra := ofr, p := p, u := uu, ta := ta, tb := tb, tc := tc } { u with c := c, td := td, te := te }) ⟨hex, lex, hope, lope, hd5, lfra⟩ hoh hofl); (case whd => ((try simp only [depth_mark, depth_deeper]); (try dsimp only [ktrTop]); (try dsimp only [Ex.depth]); (first | exact rmk (by assumption) (by exact Nat.le_of_ble_eq_true rfl) | exact rmk1 (by assumption) (by exact Nat.le_of_ble_eq_true rfl) | exact rmk2 (by assumption) (by exact Nat.le_of_ble_eq_true rfl) | exact rmk3 (by assumption) (by exact Nat.le_of_ble_eq_true rfl) | exact rmk4 (by assumption) (by exact Nat.le_of_ble_eq_true rfl) | exact rmk0 (by assumption) | omega))); intro v9 h9' tk9 e9' u9' L9 F9 N9 hA9 hB9 e9 hC0 hC1 hC4 hC5 hC6; subst e9; dsimp only at hC0 hC1 hC4 hC5 hC6))
    k_with "call ref cons nil" => ((with_reducible show wpAny _ _ (call (Value.ref 124) _) _ _ _); first | (k_dflt (refine' Does.use ?wB ?wF ?wX ?wT ?wk ?wN (load_ok w e0 (Rw.upd { r with ofra := ofr, p := p, u := uu, ta := ta, tb := tb, tc := tc } u9') ⟨hex, lex, hope, lope, hd5, lfra⟩ .D _) ?sub ?whd ?_; (case wB => k_asm); (case wF => k_asm); (case wX => k_asm); (case wT => k_asm); (case wk => exact rfl); (case wN => k_asm); (case sub => first | exact fun q hq => hB9 q (litx_sub w e0 (Rw.upd { r with ofra := ofr, p := p, u := uu, ta := ta, tb := tb, tc := tc } u9') .D q hq) | exact fun q hq => .tail _ (hB9 q (litx_sub w e0 (Rw.upd { r with ofra := ofr, p := p, u := uu, ta := ta, tb := tb, tc := tc } u9') .D q hq))); (case whd => ((try simp only [depth_mark, depth_deeper]); (try dsimp only [ktrTop]); (try dsimp only [Ex.depth]); (first | exact rmk (by assumption) (by exact Nat.le_of_ble_eq_true rfl) | exact rmk1 (by assumption) (by exact Nat.le_of_ble_eq_true rfl) | exact rmk2 (by assumption) (by exact Nat.le_of_ble_eq_true rfl) | exact rmk3 (by assumption) (by exact Nat.le_of_ble_eq_true rfl) | exact rmk4 (by assumption) (by exact Nat.le_of_ble_eq_true rfl) | exact rmk0 (by assumption) | omega))); intro v9 h9' tk9 F9 N9 kp9 e9; obtain ⟨tL, e9⟩ := e9; subst e9; dsimp only [St.get])) | (k_dflt (refine' Does.use ?wB ?wF ?wX ?wT ?wk ?wN (load_ok w e0 (Rw.upd { r with ofra := ofr, p := p, u := uu, ta := ta, tb := tb, tc := tc } u9') ⟨hex, lex, hope, lope, hd5, lfra⟩ .W _) ?sub ?whd ?_; (case wB => k_asm); (case wF => k_asm); (case wX => k_asm); (case wT => k_asm); (case wk => exact rfl); (case wN => k_asm); (case sub => first | exact fun q hq => hB9 q (litx_sub w e0 (Rw.upd { r with ofra := ofr, p := p, u := uu, ta := ta, tb := tb, tc := tc } u9') .W q hq) | exact fun q hq => .tail _ (hB9 q (litx_sub w e0 (Rw.upd { r with ofra := ofr, p := p, u := uu, ta := ta, tb := tb, tc := tc } u9') .W q hq))); (case whd => ((try simp only [depth_mark, depth_deeper]); (try dsimp only [ktrTop]); (try dsimp only [Ex.depth]); (first | exact rmk (by assumption) (by exact Nat.le_of_ble_eq_true rfl) | exact rmk1 (by assumption) (by exact Nat.le_of_ble_eq_true rfl) | exact rmk2 (by assumption) (by exact Nat.le_of_ble_eq_true rfl) | exact rmk3 (by assumption) (by exact Nat.le_of_ble_eq_true rfl) | exact rmk4 (by assumption) (by exact Nat.le_of_ble_eq_true rfl) | exact rmk0 (by assumption) | omega))); intro v9 h9' tk9 F9 N9 kp9 e9; obtain ⟨tL, e9⟩ := e9; subst e9; dsimp only [St.get])))
    repeat (first | (k_unfold; (try dsimp only)) | (k_end; wrow_close) | walk1 | (dsimp only; walk1) | (leave1; (try dsimp only)) | fail "no step")
    exact hret _ _ _ _ _ _ _ (by k_asm) (by k_asm) (by k_mem) (fun p hp => by first | exact hA9 p hp | exact .tail _ (hA9 p hp) | exact .tail _ (.tail _ (hA9 p hp)))
-- part T41
inductive Ready3 (w : World) (gM : Heap) (LM : Addr) (h : Heap) (rows date r0 s0 r1 s1 r2 s2 : Addr) (x0 x1 x2 d1 d2 d3 : Tok) (I J K : Int) : Prop
  | mk (r : Rw) (u : Mv) (oh ofl : Obj) (un du stl a0 a1 a2 a3 se : Addr) (qu : Un) (ln : Nat) (y0 y1 y2 y3 y4 y5 : Tok) (Rl : List (Addr × Obj)) (h0 : u.st = 0) (N8 : News gM LM h ((r.nums, lstN [.none, .none, .none, .none, .none, .none] r.nn) :: (r.fra, r.ofra) :: Rl)) (F8 : Fr gM LM h (fun y => if y = Str.ofString "run" then some (.ref r.run) else if y = Str.ofString "handlers" then some (.ref u.hd) else if y = Str.ofString "unit" then some (.ref un) else List.lookup y [(Str.ofString "date", .ref date), (Str.ofString "rows", .ref rows)])) (mR0 : (r.run, instObj 330 r.dr) ∈ Rl) (mR1 : (r.dr, dictOf [ent w "memory" r.k0 (.ref r.mem), ent w "limits" r.k1 (.ref r.lim), ent w "units" r.k2 r.uni, ent w "world" r.k3 r.wor, ent w "expressions" r.k4 (.ref r.ex), ent w "statements" r.k5 (.ref u.hd), ent w "frame" r.k6 (.ref r.fra), ent w "depth" r.k7 r.dep, ent w "steps" r.k8 (.int u.st u.tst), ent w "places" r.k9 r.pla, ent w "flows" r.k10 (.ref u.fl), ent w "clears" r.k11 r.cle, ent w "active" r.k12 r.act, ent w "loops" r.k13 r.loo, ent w "operations" r.k14 (.ref r.ope), ent w "library" r.k15 r.lib] 16) ∈ Rl) (mR2 : (r.ex, r.oex) ∈ Rl) (mR3 : (r.ope, r.oope) ∈ Rl) (mR4 : (r.mem, instObj 141 r.dm) ∈ Rl) (mR5 : (r.dm, dictOf [ent w "numeric" r.kn (.ref r.nums), ent w "characters" r.kc r.cha] 2) ∈ Rl) (mR6 : (r.lim, instObj 677 r.dl) ∈ Rl) (mR7 : (r.dl, dictOf [ent w "width" r.l0 (.int 32 r.lw), ent w "real_digits" r.l1 r.m1, ent w "double_digits" r.l2 r.m2, ent w "top_exponent" r.l3 r.m3, ent w "steps" r.l4 (.int 1000000 u.t4), ent w "continuations" r.l5 r.m5, ent w "columns" r.l6 r.m6, ent w "depth" r.l7 r.m7] 8) ∈ Rl) (mR8 : (u.hd, oh) ∈ Rl) (mR9 : (u.fl, ofl) ∈ Rl) (mR10 : (un, instObj 698 du) ∈ Rl) (mR11 : (du, unitD w qu stl) ∈ Rl) (mR12 : (stl, lstN [.ref a0, .ref a1, .ref a2, .ref a3] ln) ∈ Rl) (mR13 : (a0, tup [.int 0 x0, .ref s0, .int 1 y0]) ∈ Rl) (mR14 : (a1, tup [.int 0 x1, .ref s1, .int 1 y1]) ∈ Rl) (mR15 : (a2, tup [.int 0 x2, .ref s2, .int 1 y2]) ∈ Rl) (mR16 : (a3, tup [.int 0 y3, .ref se, .int 1 y4]) ∈ Rl) (mR17 : (se, tup [.str (Str.ofString "end") y5]) ∈ Rl) (mR18 : (r0, tup [.int 0 x0, .ref s0]) ∈ Rl) (mR19 : (r1, tup [.int 0 x1, .ref s1]) ∈ Rl) (mR20 : (r2, tup [.int 0 x2, .ref s2]) ∈ Rl) (mR21 : (date, tup [.int I d1, .int J d2, .int K d3]) ∈ Rl) (hex : r.oex.IsDictOf (PySem.strKind PySem.Challenge.rw_zu0017_01.row.prog w) exKvs) (lex : (r.ex == sysModules) = false) (hope : r.oope.IsDictOf (PySem.intKind PySem.Challenge.rw_zu0017_01.row.prog w) opKvs) (lope : (r.ope == sysModules) = false) (hfra : r.ofra.IsDictOf (PySem.strKind PySem.Challenge.rw_zu0017_01.row.prog w) []) (lfra : (r.fra == sysModules) = false) (hoh : oh.IsDictOf (PySem.strKind PySem.Challenge.rw_zu0017_01.row.prog w) (merged ctlKvs asgKvs)) (loh : (u.hd == sysModules) = false) (hofl : ofl.IsDictOf (PySem.strKind PySem.Challenge.rw_zu0017_01.row.prog w) []) (lofl : (u.fl == sysModules) = false) (NE2 : NeN 2 (r.nums :: r.fra :: Rl.map (·.1))) (sep : Sep r) (offR : OffR r [(u.hd, oh), (u.fl, ofl), (un, instObj 698 du), (du, unitD w qu stl), (stl, lstN [.ref a0, .ref a1, .ref a2, .ref a3] ln)]) (hfl : ∀ b ∈ [r.nums, r.fra, r.run, r.dr, r.ex, r.ope, r.mem, r.dm, r.lim, r.dl, u.hd, un, du, stl], @Ne Nat b u.fl) : Ready3 w gM LM h rows date r0 s0 r1 s1 r2 s2 x0 x1 x2 d1 d2 d3 I J K
set_option maxHeartbeats 8000000 in
theorem lawrun_num (w : World) (s : Shared) {rows date r0 s0 r1 s1 r2 s2 : Addr} {q0 q1 q2 : List Value} {x0 z0 x1 z1 x2 z2 d1 d2 d3 : Tok} {I J K : Int} (hI : 1600 ≤ I) (hI2 : I ≤ 2401) (hJ : 1 ≤ J) (hJ2 : J ≤ 12) (hK9 : 1 ≤ K) (hK2 : K ≤ 31) (hs0 : s.heap.get? s0 = some (tup (.str (Str.ofString "assign") z0 :: q0))) (hc0 : RowIs s.heap ⟨r0, s0, 0, 0, z0, "assign", q0⟩ (.asg .M n0M)) (hs1 : s.heap.get? s1 = some (tup (.str (Str.ofString "assign") z1 :: q1))) (hc1 : RowIs s.heap ⟨r1, s1, 0, 0, z1, "assign", q1⟩ (.asg .D n1D)) (hs2 : s.heap.get? s2 = some (tup (.str (Str.ofString "assign") z2 :: q2))) (hc2 : RowIs s.heap ⟨r2, s2, 0, 0, z2, "assign", q2⟩ (.asg .W n2W)) :
    MakesL w 743 200 [.ref rows, .ref date] s [(rows, lst [.ref r0, .ref r1, .ref r2]), (r0, tup [.int 0 x0, .ref s0]), (r1, tup [.int 0 x1, .ref s1]), (r2, tup [.int 0 x2, .ref s2]), (date, tup [.int I d1, .int J d2, .int K d3])] (fun tl v => ∃ (q : Addr) (tD tW : Tok), v = .ref q ∧ (q, tup [.int (numD I J K) tD, .int (numW (numD I J K)) tW]) ∈ tl) := by
  intro loose mean mg mb dp un gd cn cs a ccd cl outer A₀ base h₀ L m Q E C N hd hret
  w_top off
  have X0 := C.X; revert X0; k_fill; intro X0
  have hr0 := (N _ (.head _)).1
  replace N : News h₀ L s.heap [(r0, tup [.int 0 x0, .ref s0]), (r1, tup [.int 0 x1, .ref s1]), (r2, tup [.int 0 x2, .ref s2]), (date, tup [.int I d1, .int J d2, .int K d3])] := news_drop 1 N
  (refine wpAny_call ?_; k_dflt (refine' enter (binds := [(Str.ofString "rows", .ref rows), (Str.ofString "date", .ref date)]) _ ?k1 ?k2 ?k3 ?k4 ?k5 ?kA ?kF ?kK ?k6 ?k7 ?k8 ?k9 ?kB ?_ ?c2 ?c3 ?c4 ?c5; (case kA => exact rfl); (case kF => exact rfl); (case kK => exact Cx.k (by assumption)); (case k1 => exact Cx.B (by assumption)); (case k2 => exact Cx.F (by assumption)); (case k3 => exact Cx.X (by assumption)); (case k4 => assumption); (case k5 => exact Cx.T (by assumption)); (case k6 => k_is); (case k7 => k_is); (case k8 => k_room); (case k9 => exact BindsTo.of_eq (by kernel_rfl)); (case c5 => decide); (case kB => exact locs rfl); (case c2 => exact rfl); (case c3 => exact rfl); (case c4 => exact rfl); k_whole))
  intro gM LM hM hg FGM FM NM BM XM TM
  have hl : ∀ p ∈ ([(r0, tup [.int 0 x0, .ref s0]), (r1, tup [.int 0 x1, .ref s1]), (r2, tup [.int 0 x2, .ref s2]), (date, tup [.int I d1, .int J d2, .int K d3])] : List (Addr × Obj)), leads p.2 = false := by simp only [List.forall_mem_cons]; exact ⟨rfl, rfl, rfl, rfl, List.forall_mem_nil _⟩
  have hl2 : ∀ p ∈ ([(r0, tup [.int 0 x0, .ref s0]), (r1, tup [.int 0 x1, .ref s1]), (r2, tup [.int 0 x2, .ref s2]), (date, tup [.int I d1, .int J d2, .int K d3])] : List (Addr × Obj)), refy p.2 = false := by simp only [List.forall_mem_cons]; exact ⟨rfl, rfl, rfl, rfl, List.forall_mem_nil _⟩
  have hrows0 : gM.IsList rows #[.ref r0, .ref r1, .ref r2] := ⟨_, hg _ _ hr0 (not_in2 N hr0 rfl hl2), rfl, 0, rfl⟩
  replace hs0 := hg _ _ hs0 (not_in N hs0 rfl hl)
  replace hc0 := hc0.leave hg N hl
  replace hs1 := hg _ _ hs1 (not_in N hs1 rfl hl)
  replace hc1 := hc1.leave hg N hl
  replace hs2 := hg _ _ hs2 (not_in N hs2 rfl hl)
  replace hc2 := hc2.leave hg N hl
  have hK := keepAll hg N
  clear hl hl2 hr0
  clear hg N
  (try dsimp only)
  (with_reducible show wpAny _ _ _ _ _ _)
  k_fold
  have dn : DescN 0 [r0, r1, r2, date] := trivial
  k_with_none
  k_with "k_room" => (((try simp only [depth_mark, depth_under_make, depth_under_kw, depth_in1, depth_deeper, depth_caller]); (try dsimp only [ktrTop]); (try simp only [recursionLimit]); (first | exact rmk (by assumption) (by exact Nat.le_of_ble_eq_true rfl) | exact rmk1 (by assumption) (by exact Nat.le_of_ble_eq_true rfl) | exact rmk2 (by assumption) (by exact Nat.le_of_ble_eq_true rfl) | exact rmk3 (by assumption) (by exact Nat.le_of_ble_eq_true rfl) | exact rmk4 (by assumption) (by exact Nat.le_of_ble_eq_true rfl) | exact rmk0 (by assumption) | omega)))
  k_with "k_mem" => ((change (_ ∈ (_ : List (Addr × Obj))); ktr_member))
  k_with "k_mem" => (((change (_ ∈ ((_ ++ _) : List (Addr × Obj)))); first | (refine List.mem_append.mpr (Or.inl ?_); k_mem) | (refine List.mem_append.mpr (Or.inr ?_); k_mem)))
  k_with "binaryOp LShift int int" => (((refine lshift_int_small (by decide) (by decide) (by decide) ?_); rw [show ((1:Int) * 2 ^ ((32:Int) - 1).toNat) = 2147483648 from rfl]))
  k_with "k_mem" => (((with_reducible rename BackMark => bk9); first | with_reducible assumption | exact .head _ | (refine List.mem_append_left _ ?_; with_reducible assumption) | (refine .tail _ ?_; k_mem)))
  k_with "tb_start" => (first | exact UpdN.head | exact UpdFN.head | (refine' UpdN.tail ?b; (case b => tb_start)) | (refine' UpdFN.tail ?b; (case b => tb_start)))
  k_with "tb_rel" => (first | exact trivial | exact List.forall_mem_nil _ | (refine fmc (?a) (?b); (case a => k_cls); (case b => tb_rel)) | (refine And.intro ?a ?b; (case a => k_cls); (case b => tb_rel)))
  k_with "k_upd" => (first | (refine' UpdN.upd ?u9 ?d9 ?l9; (case u9 => tb_start); (case d9 => assumption); (case l9 => decide)) | (refine' UpdN.upd2 ?u9 ?d9 ?n9 ?l9; (case u9 => tb_start); (case d9 => assumption); (case n9 => assumption); (case l9 => decide)) | (refine' UpdN.updC ?u9 ?n9 ?c9; (case u9 => tb_start); (case n9 => k_asm); (case c9 => tb_rel)))
  k_with "k_lt" => ((rename (∀ p ∈ (_ : List (Addr × Obj)), p.1 < _) => l9); first | ((rename DescN _ _ => d9); k_dflt (replace l9 := desc_consA d9 rfl l9)) | (k_dflt (replace l9 := desc_cons (by assumption) l9); (try simp only [List.map_cons, List.map_nil] at l9)) | skip)
  k_with "k_lt2" => ((rename ((_ : Nat) < _) => l8); first | k_dflt (replace l8 := desc_cons2 (by assumption) l8) | replace l8 := ltN l8)
  k_with "k_in" => ((refine' Frag.In.keeps (K := Mine.hd.heap_1_39 _) ?kI9 (Fr.keep ?kF9); (case kF9 => k_asm); (case kI9 => k_asm)))
  k_with "CompRestP" => ((with_unfolding_all (refine' comp_succ ?hP ?hm ?hc ?hd ?_; (case hP => intro v' hv'; lcg_open hv'; exact rfl); (case hm => k_mem); (case hc => exact rfl); (case hd => exact rfl); intro I' oI' C' oC' D' m' h' tk' E' hC' hx' hy' F' N' off' ne'; (try simp only [LCg.Off3, and_true] at off'))))
  k_with "storeName" => (k_dflt (refine' storeX_any ?F ?N ?_ ?a ?b; (case F => k_asm); (case N => k_asm); (case a => rfl); (case b => rfl); k_whole); intro h' tk' F' N'; (try k_sweep))
  k_with "eval Call Name cons nil" => (refine Call_ ?_)
  k_with "eval Call Attribute cons nil" => (refine MethodCall_ ?_)
  k_with "spliced" => (first | ((with_reducible show wpAny _ _ (spliced (backTo _ (starEach (PySem.Expr.Name _ _ :: _) (envOf _ _ _ _ _)))) _ _ _); k_dflt (refine' args_loc ?F ?v ?a ?b ?c ?_; (case F => k_asm); (case a => rfl); (case b => rfl); (case v => rfl); (case c => decide))) | ((with_reducible show wpAny _ _ (spliced (backTo _ (starEach (PySem.Expr.Constant (Const.int _) _ _ :: _) _))) _ _ _); refine args_int ?_) | ((with_reducible show wpAny _ _ (spliced (backTo _ (starEach (PySem.Expr.Constant (Const.str _) _ _ :: _) _))) _ _ _); refine args_str ?_))
  k_with "eval Attribute Name" => ((with_reducible show wpAny _ _ (eval _ (envOf _ _ _ _ _)) _ _ _); k_dflt (refine' attr_loc ?F ?v ?a ?b ?c ?_; (case F => k_asm); (case a => rfl); (case b => rfl); (case v => rfl); (case c => decide)))
  k_with "eval Subscript" => (first | ((with_reducible show wpAny _ _ (eval (PySem.Expr.Subscript (PySem.Expr.Name _ _) (PySem.Expr.Constant (Const.int _) _ _) _) (envOf _ _ _ _ _)) _ _ _); k_dflt (refine' sub_loc_int ?F ?v ?a ?b ?c ?_; (case F => k_asm); (case a => rfl); (case b => rfl); (case v => rfl); (case c => decide))) | ((with_reducible show wpAny _ _ (eval (PySem.Expr.Subscript (PySem.Expr.Name _ _) _ _) (envOf _ _ _ _ _)) _ _ _); k_dflt (refine' sub_loc ?F ?v ?a ?b ?c ?_; (case F => k_asm); (case a => rfl); (case b => rfl); (case v => rfl); (case c => decide))))
  k_with "CompEnd" => (k_dflt (refine compEnd_t (by k_asm) (by k_asm) (by first | (simp only [LCg.Off3, and_true]; assumption) | assumption) (lts_of (by assumption)) (fun l hl => Or.inl hrows0) ?_))
  k_with "call ref cons nil" => (k_dflt (first | ((with_reducible show wpAny _ _ (call (Value.ref 698) _) _ _ _); (refine' unit_use ?wB ?wF ?wX ?wT ?wk ?wN ?whd ?_; (case wB => k_asm); (case wF => k_asm); (case wX => k_asm); (case wT => k_asm); (case wk => exact rfl); (case wN => k_asm); (case whd => ((try simp only [depth_mark, depth_deeper]); (try dsimp only [ktrTop]); (try dsimp only [Ex.depth]); (first | exact rmk (by assumption) (by exact Nat.le_of_ble_eq_true rfl) | exact rmk1 (by assumption) (by exact Nat.le_of_ble_eq_true rfl) | exact rmk2 (by assumption) (by exact Nat.le_of_ble_eq_true rfl) | exact rmk3 (by assumption) (by exact Nat.le_of_ble_eq_true rfl) | exact rmk4 (by assumption) (by exact Nat.le_of_ble_eq_true rfl) | exact rmk0 (by assumption) | omega))); intro x9 d9 l9 qu9 h9' tk9 F9 N9 ne9; (try simp only [List.map_cons, List.map_nil] at ne9); (have dn9 := desc_zero N9); (try simp only [List.map_cons, List.map_nil] at dn9))) | ((with_reducible show wpAny _ _ (call (Value.ref 141) _) _ _ _); (refine' mem_use ?wB ?wF ?wX ?wT ?wk ?wN ?whd ?_; (case wB => k_asm); (case wF => k_asm); (case wX => k_asm); (case wT => k_asm); (case wk => exact rfl); (case wN => k_asm); (case whd => ((try simp only [depth_mark, depth_deeper]); (try dsimp only [ktrTop]); (try dsimp only [Ex.depth]); (first | exact rmk (by assumption) (by exact Nat.le_of_ble_eq_true rfl) | exact rmk1 (by assumption) (by exact Nat.le_of_ble_eq_true rfl) | exact rmk2 (by assumption) (by exact Nat.le_of_ble_eq_true rfl) | exact rmk3 (by assumption) (by exact Nat.le_of_ble_eq_true rfl) | exact rmk4 (by assumption) (by exact Nat.le_of_ble_eq_true rfl) | exact rmk0 (by assumption) | omega))); intro n9 xm9 dm9 c9 h9' tk9 km0 km1 nn9 F9 N9 ne9; (try simp only [List.map_cons, List.map_nil] at ne9); (have dn9 := desc_zero N9); (try simp only [List.map_cons, List.map_nil] at dn9))) | ((with_reducible show wpAny _ _ (call (Value.ref 330) _) _ _ _); (refine' run_use ?wB ?wF ?wX ?wT ?wk ?wN ?whd ?_; (case wB => k_asm); (case wF => k_asm); (case wX => k_asm); (case wT => k_asm); (case wk => exact rfl); (case wN => k_asm); (case whd => ((try simp only [depth_mark, depth_deeper]); (try dsimp only [ktrTop]); (try dsimp only [Ex.depth]); (first | exact rmk (by assumption) (by exact Nat.le_of_ble_eq_true rfl) | exact rmk1 (by assumption) (by exact Nat.le_of_ble_eq_true rfl) | exact rmk2 (by assumption) (by exact Nat.le_of_ble_eq_true rfl) | exact rmk3 (by assumption) (by exact Nat.le_of_ble_eq_true rfl) | exact rmk4 (by assumption) (by exact Nat.le_of_ble_eq_true rfl) | exact rmk0 (by assumption) | omega))); intro fl9 fra9 x9 d9 ofl9 ofra9 h9' tk9 kr0 kr1 kr2 kr3 kr4 kr5 kr6 kr7 kr8 kr9 kr10 kr11 kr12 kr13 kr14 kr15 ts9 w0 w1 w2 w3 w4 w5 w6 F9 N9 ne9 i1 i2 i3 i4; (try simp only [List.map_cons, List.map_nil] at ne9); (have dn9 := desc_zero N9); (try simp only [List.map_cons, List.map_nil] at dn9)))))
  k_with "callWith ref nil nil" => ((with_reducible refine' callWith_K0 (K := Mine.hd.heap_1_39 w.params) ?k1 ?k2 ?_); (case k1 => exact Frag.In.keeps (K := Mine.hd.heap_1_39 w.params) (by k_asm) (Fr.keep (by k_asm))); (case k2 => k_is); (try dsimp only [List.nil_append, List.append_nil]))
  k_with "call ref nil" => (k_dflt (first | ((with_reducible show wpAny _ _ (call (Value.ref 659) _) _ _ _); (refine' dict_use ?wB ?wF ?wX ?wT ?wk ?wN (ctl_ok w _) ?whd ?_; (case wB => k_asm); (case wF => k_asm); (case wX => k_asm); (case wT => k_asm); (case wk => exact rfl); (case wN => k_asm); (case whd => ((try simp only [depth_mark, depth_deeper]); (try dsimp only [ktrTop]); (try dsimp only [Ex.depth]); (first | exact rmk (by assumption) (by exact Nat.le_of_ble_eq_true rfl) | exact rmk1 (by assumption) (by exact Nat.le_of_ble_eq_true rfl) | exact rmk2 (by assumption) (by exact Nat.le_of_ble_eq_true rfl) | exact rmk3 (by assumption) (by exact Nat.le_of_ble_eq_true rfl) | exact rmk4 (by assumption) (by exact Nat.le_of_ble_eq_true rfl) | exact rmk0 (by assumption) | omega))); intro dA oA hA' tkA FA NA neA ltA hdA loA)) | ((with_reducible show wpAny _ _ (call (Value.ref 561) _) _ _ _); (refine' dict_use ?wB ?wF ?wX ?wT ?wk ?wN (asg_ok w _) ?whd ?_; (case wB => k_asm); (case wF => k_asm); (case wX => k_asm); (case wT => k_asm); (case wk => exact rfl); (case wN => k_asm); (case whd => ((try simp only [depth_mark, depth_deeper]); (try dsimp only [ktrTop]); (try dsimp only [Ex.depth]); (first | exact rmk (by assumption) (by exact Nat.le_of_ble_eq_true rfl) | exact rmk1 (by assumption) (by exact Nat.le_of_ble_eq_true rfl) | exact rmk2 (by assumption) (by exact Nat.le_of_ble_eq_true rfl) | exact rmk3 (by assumption) (by exact Nat.le_of_ble_eq_true rfl) | exact rmk4 (by assumption) (by exact Nat.le_of_ble_eq_true rfl) | exact rmk0 (by assumption) | omega))); intro dB oB hB' tkB FB NB neB ltB hdB loB)) | ((with_reducible show wpAny _ _ (call (Value.ref 409) _) _ _ _); (refine' dict_use ?wB ?wF ?wX ?wT ?wk ?wN (plain_ok w _) ?whd ?_; (case wB => k_asm); (case wF => k_asm); (case wX => k_asm); (case wT => k_asm); (case wk => exact rfl); (case wN => k_asm); (case whd => ((try simp only [depth_mark, depth_deeper]); (try dsimp only [ktrTop]); (try dsimp only [Ex.depth]); (first | exact rmk (by assumption) (by exact Nat.le_of_ble_eq_true rfl) | exact rmk1 (by assumption) (by exact Nat.le_of_ble_eq_true rfl) | exact rmk2 (by assumption) (by exact Nat.le_of_ble_eq_true rfl) | exact rmk3 (by assumption) (by exact Nat.le_of_ble_eq_true rfl) | exact rmk4 (by assumption) (by exact Nat.le_of_ble_eq_true rfl) | exact rmk0 (by assumption) | omega))); intro dP oP hP' tkP FP NP neP ltP hdP loP; (have neP' := ne_push (n := 0) trivial neP); (try simp only [List.map_cons, List.map_nil] at neP'); (have dnP := desc_zero NP); (try simp only [List.map_cons, List.map_nil] at dnP))) | ((with_reducible show wpAny _ _ (call (Value.ref 677) _) _ _ _); (refine' lim_use ?wB ?wF ?wX ?wT ?wk ?wN ?whd ?_; (case wB => k_asm); (case wF => k_asm); (case wX => k_asm); (case wT => k_asm); (case wk => exact rfl); (case wN => k_asm); (case whd => ((try simp only [depth_mark, depth_deeper]); (try dsimp only [ktrTop]); (try dsimp only [Ex.depth]); (first | exact rmk (by assumption) (by exact Nat.le_of_ble_eq_true rfl) | exact rmk1 (by assumption) (by exact Nat.le_of_ble_eq_true rfl) | exact rmk2 (by assumption) (by exact Nat.le_of_ble_eq_true rfl) | exact rmk3 (by assumption) (by exact Nat.le_of_ble_eq_true rfl) | exact rmk4 (by assumption) (by exact Nat.le_of_ble_eq_true rfl) | exact rmk0 (by assumption) | omega))); intro x9 d9 h9' tk9 kl0 kl1 kl2 kl3 kl4 kl5 kl6 kl7 F9 N9 ne9; (try simp only [List.map_cons, List.map_nil] at ne9); (have dn9 := desc_zero N9); (try simp only [List.map_cons, List.map_nil] at dn9)))))
  k_with "getMethod ref" => ((with_reducible show wpAny _ _ (getMethod (Value.ref dA) _ _) _ _ _); k_dflt (refine upd_method (by k_asm) (by k_mem) hdA ?_))
  k_with "call builtin:dict.update" => (k_dflt (refine' upd_use ?wF ?wN ?h1 ?h2 hdA hdB loB ?sz ?_; (case wF => k_asm); (case wN => k_asm); (case h1 => exact neB _ (.head _)); (case h2 => exact neA); (case sz => rw [sizeLine_eq]; exact Nat.le_of_ble_eq_true rfl); intro hU oU FU NU hdU))
  iterate 126 (first | (k_unfold; (try dsimp only)) | (k_end; wrow_close) | walk1 | (dsimp only; walk1) | (leave1; (try dsimp only)) | fail "no step")
  k_with "eval Dict cons cons" => (k_dflt (refine' Dict_made (knd := PySem.intKind _ _) ?F ?a ?l ?e ?n ?_; (case F => k_asm); (case a => rfl); (case l => rfl); (case e => exact List.cons_ne_nil _ _); (case n => exact Nat.le_of_ble_eq_true rfl)); intro _)
  iterate 8 (first | (k_unfold; (try dsimp only)) | (k_end; wrow_close) | walk1 | (dsimp only; walk1) | (leave1; (try dsimp only)) | fail "no step")
  (with_reducible rename News _ _ _ _ => N9)
  (with_reducible rename Fr _ _ _ _ => F9)
  have nA := ne_of_news N9 (ne_cat (m := 1) (desc_ne (by assumption)) (ne_cat (m := 4) (by assumption) (ne_cat (m := 1) (by assumption) (ne_cat (m := 1) (desc_ne (by assumption)) (ne_cat (m := 2) (n := 3) (by assumption) (by assumption))))))
  simp only [List.map_cons, List.map_nil] at nA
  have rd := Ready3.mk (w := w) (gM := gM) (LM := LM) (rows := rows) (date := date) (r0 := r0) (s0 := s0) (x0 := x0) (r1 := r1) (s1 := s1) (x1 := x1) (r2 := r2) (s2 := s2) (x2 := x2) (d1 := d1) (d2 := d2) (d3 := d3) (I := I) (J := J) (K := K) ⟨_, _, _, _, _, _, _, _, _, _, _, _, _, _, _, .none, _, .none, _, .none, _, _, _, _, _, _, _, _, _, _, _, _, _, _, _, _, _, _, _, _, _, _, _, _, _, _, _, _, _, _, _, _, _, _, _, .none, _, _, _, fun _ => 0, fun _ => 0, fun _ => .none, fun _ => 0, fun _ => 0, fun _ => 0, fun _ => 0, fun _ => 0, _⟩ ⟨fun _ => 0, fun _ => 0, fun _ => 0, _, _, _, _, _⟩ _ _ _ _ _ _ _ _ _ _ ⟨_, _, _, _, _, _, _, _, _, _, _, _, _, _, _, _, _, _, _, _, _, _, _, _, _, _, _⟩ _ _ _ _ _ _ _ _ rfl (news_sub (lt' := (_, lstN [.none, .none, .none, .none, .none, .none] _) :: (_, _) :: [(_, _), (_, _), (_, _), (_, _), (_, _), (_, _), (_, _), (_, _), (_, _), (_, _), (_, _), (_, _), (_, _), (_, _), (_, _), (_, _), (_, _), (_, _), (_, _), (_, _), (_, _), (_, _)]) N9 (fmc (.tail _ (.tail _ (.tail _ (.tail _ (.tail _ (.tail _ (.tail _ (.tail _ (.tail _ (.head _)))))))))) ((fmc (.tail _ (.tail _ (.head _))) ((fmc (.tail _ (.tail _ (.tail _ (.head _)))) ((fmc (.tail _ (.tail _ (.tail _ (.tail _ (.head _))))) ((fmc (.tail _ (.tail _ (.tail _ (.tail _ (.tail _ (.head _)))))) ((fmc (.head _) ((fmc (.tail _ (.tail _ (.tail _ (.tail _ (.tail _ (.tail _ (.tail _ (.tail _ (.tail _ (.tail _ (.head _))))))))))) ((fmc (.tail _ (.tail _ (.tail _ (.tail _ (.tail _ (.tail _ (.tail _ (.tail _ (.tail _ (.tail _ (.tail _ (.head _)))))))))))) ((fmc (.tail _ (.tail _ (.tail _ (.tail _ (.tail _ (.tail _ (.tail _ (.head _)))))))) ((fmc (.tail _ (.tail _ (.tail _ (.tail _ (.tail _ (.tail _ (.tail _ (.tail _ (.head _))))))))) ((fmc (.tail _ (.tail _ (.tail _ (.tail _ (.tail _ (.tail _ (.tail _ (.tail _ (.tail _ (.tail _ (.tail _ (.tail _ (.tail _ (.head _)))))))))))))) ((fmc (.tail _ (.head _)) ((fmc (.tail _ (.tail _ (.tail _ (.tail _ (.tail _ (.tail _ (.tail _ (.tail _ (.tail _ (.tail _ (.tail _ (.tail _ (.tail _ (.tail _ (.tail _ (.tail _ (.tail _ (.tail _ (.tail _ (.tail _ (.tail _ (.tail _ (.tail _ (.head _)))))))))))))))))))))))) ((fmc (.tail _ (.tail _ (.tail _ (.tail _ (.tail _ (.tail _ (.tail _ (.tail _ (.tail _ (.tail _ (.tail _ (.tail _ (.tail _ (.tail _ (.tail _ (.tail _ (.tail _ (.tail _ (.tail _ (.tail _ (.tail _ (.tail _ (.tail _ (.tail _ (.head _))))))))))))))))))))))))) ((fmc (.tail _ (.tail _ (.tail _ (.tail _ (.tail _ (.tail _ (.tail _ (.tail _ (.tail _ (.tail _ (.tail _ (.tail _ (.tail _ (.tail _ (.head _))))))))))))))) ((fmc (.tail _ (.tail _ (.tail _ (.tail _ (.tail _ (.tail _ (.tail _ (.tail _ (.tail _ (.tail _ (.tail _ (.tail _ (.tail _ (.tail _ (.tail _ (.tail _ (.tail _ (.tail _ (.tail _ (.tail _ (.tail _ (.head _)))))))))))))))))))))) ((fmc (.tail _ (.tail _ (.tail _ (.tail _ (.tail _ (.tail _ (.tail _ (.tail _ (.tail _ (.tail _ (.tail _ (.tail _ (.tail _ (.tail _ (.tail _ (.tail _ (.tail _ (.tail _ (.tail _ (.tail _ (.head _))))))))))))))))))))) ((fmc (.tail _ (.tail _ (.tail _ (.tail _ (.tail _ (.tail _ (.tail _ (.tail _ (.tail _ (.tail _ (.tail _ (.tail _ (.tail _ (.tail _ (.tail _ (.tail _ (.tail _ (.tail _ (.tail _ (.head _)))))))))))))))))))) ((fmc (.tail _ (.tail _ (.tail _ (.tail _ (.tail _ (.tail _ (.tail _ (.tail _ (.tail _ (.tail _ (.tail _ (.tail _ (.tail _ (.tail _ (.tail _ (.tail _ (.head _))))))))))))))))) ((fmc (.tail _ (.tail _ (.tail _ (.tail _ (.tail _ (.tail _ (.tail _ (.tail _ (.tail _ (.tail _ (.tail _ (.tail _ (.tail _ (.tail _ (.tail _ (.tail _ (.tail _ (.head _)))))))))))))))))) ((fmc (.tail _ (.tail _ (.tail _ (.tail _ (.tail _ (.tail _ (.tail _ (.tail _ (.tail _ (.tail _ (.tail _ (.tail _ (.tail _ (.tail _ (.tail _ (.tail _ (.tail _ (.tail _ (.tail _ (.tail _ (.tail _ (.tail _ (.tail _ (.tail _ (.tail _ (.head _)))))))))))))))))))))))))) ((fmc (.tail _ (.tail _ (.tail _ (.tail _ (.tail _ (.tail _ (.tail _ (.tail _ (.tail _ (.tail _ (.tail _ (.tail _ (.tail _ (.tail _ (.tail _ (.tail _ (.tail _ (.tail _ (.tail _ (.tail _ (.tail _ (.tail _ (.tail _ (.tail _ (.tail _ (.tail _ (.head _))))))))))))))))))))))))))) ((fmc (.tail _ (.tail _ (.tail _ (.tail _ (.tail _ (.tail _ (.tail _ (.tail _ (.tail _ (.tail _ (.tail _ (.tail _ (.tail _ (.tail _ (.tail _ (.tail _ (.tail _ (.tail _ (.tail _ (.tail _ (.tail _ (.tail _ (.tail _ (.tail _ (.tail _ (.tail _ (.tail _ (.head _)))))))))))))))))))))))))))) ((fmc (.tail _ (.tail _ (.tail _ (.tail _ (.tail _ (.tail _ (.tail _ (.tail _ (.tail _ (.tail _ (.tail _ (.tail _ (.tail _ (.tail _ (.tail _ (.tail _ (.tail _ (.tail _ (.tail _ (.tail _ (.tail _ (.tail _ (.tail _ (.tail _ (.tail _ (.tail _ (.tail _ (.tail _ (.head _))))))))))))))))))))))))))))) (List.forall_mem_nil _))))))))))))))))))))))))))))))))))))))))))))))))) F9 (.head _) (.tail _ (.head _)) (.tail _ (.tail _ (.head _))) (.tail _ (.tail _ (.tail _ (.head _)))) (.tail _ (.tail _ (.tail _ (.tail _ (.head _))))) (.tail _ (.tail _ (.tail _ (.tail _ (.tail _ (.head _)))))) (.tail _ (.tail _ (.tail _ (.tail _ (.tail _ (.tail _ (.head _))))))) (.tail _ (.tail _ (.tail _ (.tail _ (.tail _ (.tail _ (.tail _ (.head _)))))))) (.tail _ (.tail _ (.tail _ (.tail _ (.tail _ (.tail _ (.tail _ (.tail _ (.head _))))))))) (.tail _ (.tail _ (.tail _ (.tail _ (.tail _ (.tail _ (.tail _ (.tail _ (.tail _ (.head _)))))))))) (.tail _ (.tail _ (.tail _ (.tail _ (.tail _ (.tail _ (.tail _ (.tail _ (.tail _ (.tail _ (.head _))))))))))) (.tail _ (.tail _ (.tail _ (.tail _ (.tail _ (.tail _ (.tail _ (.tail _ (.tail _ (.tail _ (.tail _ (.head _)))))))))))) (.tail _ (.tail _ (.tail _ (.tail _ (.tail _ (.tail _ (.tail _ (.tail _ (.tail _ (.tail _ (.tail _ (.tail _ (.head _))))))))))))) (.tail _ (.tail _ (.tail _ (.tail _ (.tail _ (.tail _ (.tail _ (.tail _ (.tail _ (.tail _ (.tail _ (.tail _ (.tail _ (.head _)))))))))))))) (.tail _ (.tail _ (.tail _ (.tail _ (.tail _ (.tail _ (.tail _ (.tail _ (.tail _ (.tail _ (.tail _ (.tail _ (.tail _ (.tail _ (.head _))))))))))))))) (.tail _ (.tail _ (.tail _ (.tail _ (.tail _ (.tail _ (.tail _ (.tail _ (.tail _ (.tail _ (.tail _ (.tail _ (.tail _ (.tail _ (.tail _ (.head _)))))))))))))))) (.tail _ (.tail _ (.tail _ (.tail _ (.tail _ (.tail _ (.tail _ (.tail _ (.tail _ (.tail _ (.tail _ (.tail _ (.tail _ (.tail _ (.tail _ (.tail _ (.head _))))))))))))))))) (.tail _ (.tail _ (.tail _ (.tail _ (.tail _ (.tail _ (.tail _ (.tail _ (.tail _ (.tail _ (.tail _ (.tail _ (.tail _ (.tail _ (.tail _ (.tail _ (.tail _ (.head _)))))))))))))))))) (.tail _ (.tail _ (.tail _ (.tail _ (.tail _ (.tail _ (.tail _ (.tail _ (.tail _ (.tail _ (.tail _ (.tail _ (.tail _ (.tail _ (.tail _ (.tail _ (.tail _ (.tail _ (.head _))))))))))))))))))) (.tail _ (.tail _ (.tail _ (.tail _ (.tail _ (.tail _ (.tail _ (.tail _ (.tail _ (.tail _ (.tail _ (.tail _ (.tail _ (.tail _ (.tail _ (.tail _ (.tail _ (.tail _ (.tail _ (.head _)))))))))))))))))))) (.tail _ (.tail _ (.tail _ (.tail _ (.tail _ (.tail _ (.tail _ (.tail _ (.tail _ (.tail _ (.tail _ (.tail _ (.tail _ (.tail _ (.tail _ (.tail _ (.tail _ (.tail _ (.tail _ (.tail _ (.head _))))))))))))))))))))) (.tail _ (.tail _ (.tail _ (.tail _ (.tail _ (.tail _ (.tail _ (.tail _ (.tail _ (.tail _ (.tail _ (.tail _ (.tail _ (.tail _ (.tail _ (.tail _ (.tail _ (.tail _ (.tail _ (.tail _ (.tail _ (.head _)))))))))))))))))))))) hdP loP (by assumption) (by assumption) (by assumption) (by assumption) hdU loA (by assumption) (by assumption) (⟨fmc (ne_two nA (i := 9) (j := 2) rfl rfl rfl rfl) ((fmc (ne_two nA (i := 9) (j := 3) rfl rfl rfl rfl) ((fmc (ne_two nA (i := 9) (j := 4) rfl rfl rfl rfl) ((fmc (ne_two nA (i := 9) (j := 5) rfl rfl rfl rfl) ((fmc (ne_two nA (i := 9) (j := 0) rfl rfl rfl rfl) ((fmc (ne_two nA (i := 9) (j := 10) rfl rfl rfl rfl) ((fmc (ne_two nA (i := 9) (j := 11) rfl rfl rfl rfl) ((fmc (ne_two nA (i := 9) (j := 7) rfl rfl rfl rfl) ((fmc (ne_two nA (i := 9) (j := 8) rfl rfl rfl rfl) ((fmc (ne_two nA (i := 9) (j := 13) rfl rfl rfl rfl) ((fmc (ne_two nA (i := 9) (j := 1) rfl rfl rfl rfl) ((fmc (ne_two nA (i := 9) (j := 23) rfl rfl rfl rfl) ((fmc (ne_two nA (i := 9) (j := 24) rfl rfl rfl rfl) ((fmc (ne_two nA (i := 9) (j := 14) rfl rfl rfl rfl) ((fmc (ne_two nA (i := 9) (j := 21) rfl rfl rfl rfl) ((fmc (ne_two nA (i := 9) (j := 20) rfl rfl rfl rfl) ((fmc (ne_two nA (i := 9) (j := 19) rfl rfl rfl rfl) ((fmc (ne_two nA (i := 9) (j := 16) rfl rfl rfl rfl) ((fmc (ne_two nA (i := 9) (j := 17) rfl rfl rfl rfl) ((fmc (ne_two nA (i := 9) (j := 25) rfl rfl rfl rfl) ((fmc (ne_two nA (i := 9) (j := 26) rfl rfl rfl rfl) ((fmc (ne_two nA (i := 9) (j := 27) rfl rfl rfl rfl) ((fmc (ne_two nA (i := 9) (j := 28) rfl rfl rfl rfl) (List.forall_mem_nil _))))))))))))))))))))))))))))))))))))))))))))), fmc (ne_two nA (i := 2) (j := 3) rfl rfl rfl rfl) ((fmc (ne_two nA (i := 2) (j := 4) rfl rfl rfl rfl) ((fmc (ne_two nA (i := 2) (j := 5) rfl rfl rfl rfl) ((fmc (ne_two nA (i := 2) (j := 0) rfl rfl rfl rfl) ((fmc (ne_two nA (i := 2) (j := 10) rfl rfl rfl rfl) ((fmc (ne_two nA (i := 2) (j := 11) rfl rfl rfl rfl) ((fmc (ne_two nA (i := 2) (j := 7) rfl rfl rfl rfl) ((fmc (ne_two nA (i := 2) (j := 8) rfl rfl rfl rfl) ((fmc (ne_two nA (i := 2) (j := 13) rfl rfl rfl rfl) ((fmc (ne_two nA (i := 2) (j := 1) rfl rfl rfl rfl) ((fmc (ne_two nA (i := 2) (j := 23) rfl rfl rfl rfl) ((fmc (ne_two nA (i := 2) (j := 24) rfl rfl rfl rfl) ((fmc (ne_two nA (i := 2) (j := 14) rfl rfl rfl rfl) ((fmc (ne_two nA (i := 2) (j := 21) rfl rfl rfl rfl) ((fmc (ne_two nA (i := 2) (j := 20) rfl rfl rfl rfl) ((fmc (ne_two nA (i := 2) (j := 19) rfl rfl rfl rfl) ((fmc (ne_two nA (i := 2) (j := 16) rfl rfl rfl rfl) ((fmc (ne_two nA (i := 2) (j := 17) rfl rfl rfl rfl) ((fmc (ne_two nA (i := 2) (j := 25) rfl rfl rfl rfl) ((fmc (ne_two nA (i := 2) (j := 26) rfl rfl rfl rfl) ((fmc (ne_two nA (i := 2) (j := 27) rfl rfl rfl rfl) ((fmc (ne_two nA (i := 2) (j := 28) rfl rfl rfl rfl) (List.forall_mem_nil _))))))))))))))))))))))))))))))))))))))))))), trivial⟩) (⟨ne_two nA (i := 5) (j := 4) rfl rfl rfl rfl, ne_two nA (i := 0) (j := 4) rfl rfl rfl rfl, ne_two nA (i := 2) (j := 4) rfl rfl rfl rfl, ne_two nA (i := 11) (j := 4) rfl rfl rfl rfl, ne_two nA (i := 8) (j := 4) rfl rfl rfl rfl, ne_two nA (i := 5) (j := 9) rfl rfl rfl rfl, ne_two nA (i := 0) (j := 9) rfl rfl rfl rfl, ne_two nA (i := 2) (j := 9) rfl rfl rfl rfl⟩) (fmc (⟨ne_two nA (i := 13) (j := 4) rfl rfl rfl rfl, ne_two nA (i := 13) (j := 9) rfl rfl rfl rfl⟩) ((fmc (⟨ne_two nA (i := 1) (j := 4) rfl rfl rfl rfl, ne_two nA (i := 1) (j := 9) rfl rfl rfl rfl⟩) ((fmc (⟨ne_two nA (i := 23) (j := 4) rfl rfl rfl rfl, ne_two nA (i := 23) (j := 9) rfl rfl rfl rfl⟩) ((fmc (⟨ne_two nA (i := 24) (j := 4) rfl rfl rfl rfl, ne_two nA (i := 24) (j := 9) rfl rfl rfl rfl⟩) ((fmc (⟨ne_two nA (i := 14) (j := 4) rfl rfl rfl rfl, ne_two nA (i := 14) (j := 9) rfl rfl rfl rfl⟩) (List.forall_mem_nil _)))))))))) (fmc (ne_two nA (i := 9) (j := 1) rfl rfl rfl rfl) ((fmc (ne_two nA (i := 2) (j := 1) rfl rfl rfl rfl) ((fmc (ne_two nA (i := 3) (j := 1) rfl rfl rfl rfl) ((fmc (ne_two nA (i := 4) (j := 1) rfl rfl rfl rfl) ((fmc (ne_two nA (i := 5) (j := 1) rfl rfl rfl rfl) ((fmc (ne_two nA (i := 0) (j := 1) rfl rfl rfl rfl) ((fmc (ne_two nA (i := 10) (j := 1) rfl rfl rfl rfl) ((fmc (ne_two nA (i := 11) (j := 1) rfl rfl rfl rfl) ((fmc (ne_two nA (i := 7) (j := 1) rfl rfl rfl rfl) ((fmc (ne_two nA (i := 8) (j := 1) rfl rfl rfl rfl) ((fmc (ne_two nA (i := 13) (j := 1) rfl rfl rfl rfl) ((fmc (ne_two nA (i := 23) (j := 1) rfl rfl rfl rfl) ((fmc (ne_two nA (i := 24) (j := 1) rfl rfl rfl rfl) ((fmc (ne_two nA (i := 14) (j := 1) rfl rfl rfl rfl) (List.forall_mem_nil _))))))))))))))))))))))))))))
  obtain ⟨r, u, oh, ofl, un, du, stl, a0, a1, a2, a3, se, qu, ln, y0, y1, y2, y3, y4, y5, Rl, h0, N8, F8, mR0, mR1, mR2, mR3, mR4, mR5, mR6, mR7, mR8, mR9, mR10, mR11, mR12, mR13, mR14, mR15, mR16, mR17, mR18, mR19, mR20, mR21, hex, lex, hope, lope, hfra, lfra, hoh, loh, hofl, lofl, NE2, sep, offR, hfl⟩ := rd
  refine' lawrun_back w (rs := [⟨a0, s0, x0, y0, z0, "assign", q0⟩, ⟨a1, s1, x1, y1, z1, "assign", q1⟩, ⟨a2, s2, x2, y2, z2, "assign", q2⟩, ⟨a3, se, y3, y4, y5, "end", []⟩]) (cm := numCmds) (e0 := ⟨I, J, K, numD I J K, numW (numD I J K), numM J⟩) (keep := [(r0, tup [.int 0 x0, .ref s0]), (r1, tup [.int 0 x1, .ref s1]), (r2, tup [.int 0 x2, .ref s2]), (date, tup [.int I d1, .int J d2, .int K d3])]) shape_num (by decide) (num_runs I J K hI hI2 hJ hJ2 hK9 hK2) hd h0 mR0 mR1 mR2 mR3 mR4 mR5 mR6 mR7 mR8 mR9 mR10 mR11 mR12 mR21 (fmc mR18 (fmc mR19 (fmc mR20 (fmc mR21 (List.forall_mem_nil _))))) (fmc rfl (fmc rfl (fmc rfl (fmc rfl (List.forall_mem_nil _))))) ?rw hex lex hope lope hfra lfra hoh loh hofl lofl NE2 sep offR hfl FGM BM XM TM N8 F8 ?hb ?hE ?ret
  case rw =>
    intro h' k1 k2
    exact ⟨⟨k2 _ mR13, k1 _ _ hs0⟩, hc0.keeps k1, ⟨k2 _ mR14, k1 _ _ hs1⟩, hc1.keeps k1, ⟨k2 _ mR15, k1 _ _ hs2⟩, hc2.keeps k1, ⟨k2 _ mR16, k2 _ mR17⟩, ⟨rfl, rfl⟩, trivial⟩
  case hb => k_is
  case hE => passes_own
  case ret =>
    intro q tD tW h' tk' led m' Fq Nq mq kq
    repeat' ((with_reducible rename DescN _ _ => q9); clear q9)
    clear N9 F9 N8 F8
    repeat (first | (k_unfold; (try dsimp only)) | (k_end; wrow_close) | walk1 | (dsimp only; walk1) | (leave1; (try dsimp only)) | fail "no step")
    (with_reducible rename News h₀ L _ _ => N8)
    refine fun H => hret _ _ _ _ (H fun p hp => (N8 p (kq p hp)).1) N8 ⟨_, _, _, rfl, mq⟩
-- part T42
inductive Ready6 (w : World) (gM : Heap) (LM : Addr) (h : Heap) (rows date r0 s0 r1 s1 r2 s2 r3 s3 r4 s4 r5 s5 : Addr) (x0 x1 x2 x3 x4 x5 d1 d2 d3 : Tok) (I J K : Int) : Prop
  | mk (r : Rw) (u : Mv) (oh ofl : Obj) (un du stl a0 a1 a2 a3 a4 a5 a6 se : Addr) (qu : Un) (ln : Nat) (y0 y1 y2 y3 y4 y5 y6 y7 y8 : Tok) (Rl : List (Addr × Obj)) (h0 : u.st = 0) (N8 : News gM LM h ((r.nums, lstN [.none, .none, .none, .none, .none, .none] r.nn) :: (r.fra, r.ofra) :: Rl)) (F8 : Fr gM LM h (fun y => if y = Str.ofString "run" then some (.ref r.run) else if y = Str.ofString "handlers" then some (.ref u.hd) else if y = Str.ofString "unit" then some (.ref un) else List.lookup y [(Str.ofString "date", .ref date), (Str.ofString "rows", .ref rows)])) (mR0 : (r.run, instObj 330 r.dr) ∈ Rl) (mR1 : (r.dr, dictOf [ent w "memory" r.k0 (.ref r.mem), ent w "limits" r.k1 (.ref r.lim), ent w "units" r.k2 r.uni, ent w "world" r.k3 r.wor, ent w "expressions" r.k4 (.ref r.ex), ent w "statements" r.k5 (.ref u.hd), ent w "frame" r.k6 (.ref r.fra), ent w "depth" r.k7 r.dep, ent w "steps" r.k8 (.int u.st u.tst), ent w "places" r.k9 r.pla, ent w "flows" r.k10 (.ref u.fl), ent w "clears" r.k11 r.cle, ent w "active" r.k12 r.act, ent w "loops" r.k13 r.loo, ent w "operations" r.k14 (.ref r.ope), ent w "library" r.k15 r.lib] 16) ∈ Rl) (mR2 : (r.ex, r.oex) ∈ Rl) (mR3 : (r.ope, r.oope) ∈ Rl) (mR4 : (r.mem, instObj 141 r.dm) ∈ Rl) (mR5 : (r.dm, dictOf [ent w "numeric" r.kn (.ref r.nums), ent w "characters" r.kc r.cha] 2) ∈ Rl) (mR6 : (r.lim, instObj 677 r.dl) ∈ Rl) (mR7 : (r.dl, dictOf [ent w "width" r.l0 (.int 32 r.lw), ent w "real_digits" r.l1 r.m1, ent w "double_digits" r.l2 r.m2, ent w "top_exponent" r.l3 r.m3, ent w "steps" r.l4 (.int 1000000 u.t4), ent w "continuations" r.l5 r.m5, ent w "columns" r.l6 r.m6, ent w "depth" r.l7 r.m7] 8) ∈ Rl) (mR8 : (u.hd, oh) ∈ Rl) (mR9 : (u.fl, ofl) ∈ Rl) (mR10 : (un, instObj 698 du) ∈ Rl) (mR11 : (du, unitD w qu stl) ∈ Rl) (mR12 : (stl, lstN [.ref a0, .ref a1, .ref a2, .ref a3, .ref a4, .ref a5, .ref a6] ln) ∈ Rl) (mR13 : (a0, tup [.int 0 x0, .ref s0, .int 1 y0]) ∈ Rl) (mR14 : (a1, tup [.int 0 x1, .ref s1, .int 1 y1]) ∈ Rl) (mR15 : (a2, tup [.int 0 x2, .ref s2, .int 1 y2]) ∈ Rl) (mR16 : (a3, tup [.int 0 x3, .ref s3, .int 1 y3]) ∈ Rl) (mR17 : (a4, tup [.int 0 x4, .ref s4, .int 1 y4]) ∈ Rl) (mR18 : (a5, tup [.int 0 x5, .ref s5, .int 1 y5]) ∈ Rl) (mR19 : (a6, tup [.int 0 y6, .ref se, .int 1 y7]) ∈ Rl) (mR20 : (se, tup [.str (Str.ofString "end") y8]) ∈ Rl) (mR21 : (r0, tup [.int 0 x0, .ref s0]) ∈ Rl) (mR22 : (r1, tup [.int 0 x1, .ref s1]) ∈ Rl) (mR23 : (r2, tup [.int 0 x2, .ref s2]) ∈ Rl) (mR24 : (r3, tup [.int 0 x3, .ref s3]) ∈ Rl) (mR25 : (r4, tup [.int 0 x4, .ref s4]) ∈ Rl) (mR26 : (r5, tup [.int 0 x5, .ref s5]) ∈ Rl) (mR27 : (date, tup [.int I d1, .int J d2, .int K d3]) ∈ Rl) (hex : r.oex.IsDictOf (PySem.strKind PySem.Challenge.rw_zu0017_01.row.prog w) exKvs) (lex : (r.ex == sysModules) = false) (hope : r.oope.IsDictOf (PySem.intKind PySem.Challenge.rw_zu0017_01.row.prog w) opKvs) (lope : (r.ope == sysModules) = false) (hfra : r.ofra.IsDictOf (PySem.strKind PySem.Challenge.rw_zu0017_01.row.prog w) []) (lfra : (r.fra == sysModules) = false) (hoh : oh.IsDictOf (PySem.strKind PySem.Challenge.rw_zu0017_01.row.prog w) (merged ctlKvs asgKvs)) (loh : (u.hd == sysModules) = false) (hofl : ofl.IsDictOf (PySem.strKind PySem.Challenge.rw_zu0017_01.row.prog w) []) (lofl : (u.fl == sysModules) = false) (NE2 : NeN 2 (r.nums :: r.fra :: Rl.map (·.1))) (sep : Sep r) (offR : OffR r [(u.hd, oh), (u.fl, ofl), (un, instObj 698 du), (du, unitD w qu stl), (stl, lstN [.ref a0, .ref a1, .ref a2, .ref a3, .ref a4, .ref a5, .ref a6] ln)]) (hfl : ∀ b ∈ [r.nums, r.fra, r.run, r.dr, r.ex, r.ope, r.mem, r.dm, r.lim, r.dl, u.hd, un, du, stl], @Ne Nat b u.fl) : Ready6 w gM LM h rows date r0 s0 r1 s1 r2 s2 r3 s3 r4 s4 r5 s5 x0 x1 x2 x3 x4 x5 d1 d2 d3 I J K
set_option maxHeartbeats 8000000 in
theorem lawrun_wee (w : World) (s : Shared) {rows date r0 s0 r1 s1 r2 s2 r3 s3 r4 s4 r5 s5 : Addr} {q0 q1 q2 q3 q4 q5 : List Value} {x0 z0 x1 z1 x2 z2 x3 z3 x4 z4 x5 z5 d1 d2 d3 : Tok} {I J K : Int} (hI : 1600 ≤ I) (hI2 : I ≤ 2401) (hJ : 1 ≤ J) (hJ2 : J ≤ 12) (hK9 : 1 ≤ K) (hK2 : K ≤ 31) (hs0 : s.heap.get? s0 = some (tup (.str (Str.ofString "if") z0 :: q0))) (hc0 : RowIs s.heap ⟨r0, s0, 0, 0, z0, "if", q0⟩ (.iff .J 2)) (hs1 : s.heap.get? s1 = some (tup (.str (Str.ofString "assign") z1 :: q1))) (hc1 : RowIs s.heap ⟨r1, s1, 0, 0, z1, "assign", q1⟩ (.asg .J w0J)) (hs2 : s.heap.get? s2 = some (tup (.str (Str.ofString "assign") z2 :: q2))) (hc2 : RowIs s.heap ⟨r2, s2, 0, 0, z2, "assign", q2⟩ (.asg .I w1I)) (hs3 : s.heap.get? s3 = some (tup (.str (Str.ofString "endif") z3 :: q3))) (hc3 : RowIs s.heap ⟨r3, s3, 0, 0, z3, "endif", q3⟩ (.on)) (hs4 : s.heap.get? s4 = some (tup (.str (Str.ofString "assign") z4 :: q4))) (hc4 : RowIs s.heap ⟨r4, s4, 0, 0, z4, "assign", q4⟩ (.asg .W w2W)) (hs5 : s.heap.get? s5 = some (tup (.str (Str.ofString "assign") z5 :: q5))) (hc5 : RowIs s.heap ⟨r5, s5, 0, 0, z5, "assign", q5⟩ (.asg .W w3W)) :
    MakesL w 743 200 [.ref rows, .ref date] s [(rows, lst [.ref r0, .ref r1, .ref r2, .ref r3, .ref r4, .ref r5]), (r0, tup [.int 0 x0, .ref s0]), (r1, tup [.int 0 x1, .ref s1]), (r2, tup [.int 0 x2, .ref s2]), (r3, tup [.int 0 x3, .ref s3]), (r4, tup [.int 0 x4, .ref s4]), (r5, tup [.int 0 x5, .ref s5]), (date, tup [.int I d1, .int J d2, .int K d3])] (fun tl v => ∃ (q : Addr) (D : Int) (tD tW : Tok), v = .ref q ∧ (q, tup [.int D tD, .int (if J ≤ 2 then weeW (I - 1) (J + 12) K else weeW I J K) tW]) ∈ tl) := by
  intro loose mean mg mb dp un gd cn cs a ccd cl outer A₀ base h₀ L m Q E C N hd hret
  w_top off
  have X0 := C.X; revert X0; k_fill; intro X0
  have hr0 := (N _ (.head _)).1
  replace N : News h₀ L s.heap [(r0, tup [.int 0 x0, .ref s0]), (r1, tup [.int 0 x1, .ref s1]), (r2, tup [.int 0 x2, .ref s2]), (r3, tup [.int 0 x3, .ref s3]), (r4, tup [.int 0 x4, .ref s4]), (r5, tup [.int 0 x5, .ref s5]), (date, tup [.int I d1, .int J d2, .int K d3])] := news_drop 1 N
  (refine wpAny_call ?_; k_dflt (refine' enter (binds := [(Str.ofString "rows", .ref rows), (Str.ofString "date", .ref date)]) _ ?k1 ?k2 ?k3 ?k4 ?k5 ?kA ?kF ?kK ?k6 ?k7 ?k8 ?k9 ?kB ?_ ?c2 ?c3 ?c4 ?c5; (case kA => exact rfl); (case kF => exact rfl); (case kK => exact Cx.k (by assumption)); (case k1 => exact Cx.B (by assumption)); (case k2 => exact Cx.F (by assumption)); (case k3 => exact Cx.X (by assumption)); (case k4 => assumption); (case k5 => exact Cx.T (by assumption)); (case k6 => k_is); (case k7 => k_is); (case k8 => k_room); (case k9 => exact BindsTo.of_eq (by kernel_rfl)); (case c5 => decide); (case kB => exact locs rfl); (case c2 => exact rfl); (case c3 => exact rfl); (case c4 => exact rfl); k_whole))
  intro gM LM hM hg FGM FM NM BM XM TM
  have hl : ∀ p ∈ ([(r0, tup [.int 0 x0, .ref s0]), (r1, tup [.int 0 x1, .ref s1]), (r2, tup [.int 0 x2, .ref s2]), (r3, tup [.int 0 x3, .ref s3]), (r4, tup [.int 0 x4, .ref s4]), (r5, tup [.int 0 x5, .ref s5]), (date, tup [.int I d1, .int J d2, .int K d3])] : List (Addr × Obj)), leads p.2 = false := by simp only [List.forall_mem_cons]; exact ⟨rfl, rfl, rfl, rfl, rfl, rfl, rfl, List.forall_mem_nil _⟩
  have hl2 : ∀ p ∈ ([(r0, tup [.int 0 x0, .ref s0]), (r1, tup [.int 0 x1, .ref s1]), (r2, tup [.int 0 x2, .ref s2]), (r3, tup [.int 0 x3, .ref s3]), (r4, tup [.int 0 x4, .ref s4]), (r5, tup [.int 0 x5, .ref s5]), (date, tup [.int I d1, .int J d2, .int K d3])] : List (Addr × Obj)), refy p.2 = false := by simp only [List.forall_mem_cons]; exact ⟨rfl, rfl, rfl, rfl, rfl, rfl, rfl, List.forall_mem_nil _⟩
  have hrows0 : gM.IsList rows #[.ref r0, .ref r1, .ref r2, .ref r3, .ref r4, .ref r5] := ⟨_, hg _ _ hr0 (not_in2 N hr0 rfl hl2), rfl, 0, rfl⟩
  replace hs0 := hg _ _ hs0 (not_in N hs0 rfl hl)
  replace hc0 := hc0.leave hg N hl
  replace hs1 := hg _ _ hs1 (not_in N hs1 rfl hl)
  replace hc1 := hc1.leave hg N hl
  replace hs2 := hg _ _ hs2 (not_in N hs2 rfl hl)
  replace hc2 := hc2.leave hg N hl
  replace hs3 := hg _ _ hs3 (not_in N hs3 rfl hl)
  replace hc3 := hc3.leave hg N hl
  replace hs4 := hg _ _ hs4 (not_in N hs4 rfl hl)
  replace hc4 := hc4.leave hg N hl
  replace hs5 := hg _ _ hs5 (not_in N hs5 rfl hl)
  replace hc5 := hc5.leave hg N hl
  have hK := keepAll hg N
  clear hl hl2 hr0
  clear hg N
  (try dsimp only)
  (with_reducible show wpAny _ _ _ _ _ _)
  k_fold
  have dn : DescN 0 [r0, r1, r2, r3, r4, r5, date] := trivial
  k_with_none
  k_with "k_room" => (((try simp only [depth_mark, depth_under_make, depth_under_kw, depth_in1, depth_deeper, depth_caller]); (try dsimp only [ktrTop]); (try simp only [recursionLimit]); (first | exact rmk (by assumption) (by exact Nat.le_of_ble_eq_true rfl) | exact rmk1 (by assumption) (by exact Nat.le_of_ble_eq_true rfl) | exact rmk2 (by assumption) (by exact Nat.le_of_ble_eq_true rfl) | exact rmk3 (by assumption) (by exact Nat.le_of_ble_eq_true rfl) | exact rmk4 (by assumption) (by exact Nat.le_of_ble_eq_true rfl) | exact rmk0 (by assumption) | omega)))
  k_with "k_mem" => ((change (_ ∈ (_ : List (Addr × Obj))); ktr_member))
  k_with "k_mem" => (((change (_ ∈ ((_ ++ _) : List (Addr × Obj)))); first | (refine List.mem_append.mpr (Or.inl ?_); k_mem) | (refine List.mem_append.mpr (Or.inr ?_); k_mem)))
  k_with "binaryOp LShift int int" => (((refine lshift_int_small (by decide) (by decide) (by decide) ?_); rw [show ((1:Int) * 2 ^ ((32:Int) - 1).toNat) = 2147483648 from rfl]))
  k_with "k_mem" => (((with_reducible rename BackMark => bk9); first | with_reducible assumption | exact .head _ | (refine List.mem_append_left _ ?_; with_reducible assumption) | (refine .tail _ ?_; k_mem)))
  k_with "tb_start" => (first | exact UpdN.head | exact UpdFN.head | (refine' UpdN.tail ?b; (case b => tb_start)) | (refine' UpdFN.tail ?b; (case b => tb_start)))
  k_with "tb_rel" => (first | exact trivial | exact List.forall_mem_nil _ | (refine fmc (?a) (?b); (case a => k_cls); (case b => tb_rel)) | (refine And.intro ?a ?b; (case a => k_cls); (case b => tb_rel)))
  k_with "k_upd" => (first | (refine' UpdN.upd ?u9 ?d9 ?l9; (case u9 => tb_start); (case d9 => assumption); (case l9 => decide)) | (refine' UpdN.upd2 ?u9 ?d9 ?n9 ?l9; (case u9 => tb_start); (case d9 => assumption); (case n9 => assumption); (case l9 => decide)) | (refine' UpdN.updC ?u9 ?n9 ?c9; (case u9 => tb_start); (case n9 => k_asm); (case c9 => tb_rel)))
  k_with "k_lt" => ((rename (∀ p ∈ (_ : List (Addr × Obj)), p.1 < _) => l9); first | ((rename DescN _ _ => d9); k_dflt (replace l9 := desc_consA d9 rfl l9)) | (k_dflt (replace l9 := desc_cons (by assumption) l9); (try simp only [List.map_cons, List.map_nil] at l9)) | skip)
  k_with "k_lt2" => ((rename ((_ : Nat) < _) => l8); first | k_dflt (replace l8 := desc_cons2 (by assumption) l8) | replace l8 := ltN l8)
  k_with "k_in" => ((refine' Frag.In.keeps (K := Mine.hd.heap_1_39 _) ?kI9 (Fr.keep ?kF9); (case kF9 => k_asm); (case kI9 => k_asm)))
  k_with "CompRestP" => ((with_unfolding_all (refine' comp_succ ?hP ?hm ?hc ?hd ?_; (case hP => intro v' hv'; lcg_open hv'; exact rfl); (case hm => k_mem); (case hc => exact rfl); (case hd => exact rfl); intro I' oI' C' oC' D' m' h' tk' E' hC' hx' hy' F' N' off' ne'; (try simp only [LCg.Off3, and_true] at off'))))
  k_with "storeName" => (k_dflt (refine' storeX_any ?F ?N ?_ ?a ?b; (case F => k_asm); (case N => k_asm); (case a => rfl); (case b => rfl); k_whole); intro h' tk' F' N'; (try k_sweep))
  k_with "eval Call Name cons nil" => (refine Call_ ?_)
  k_with "eval Call Attribute cons nil" => (refine MethodCall_ ?_)
  k_with "spliced" => (first | ((with_reducible show wpAny _ _ (spliced (backTo _ (starEach (PySem.Expr.Name _ _ :: _) (envOf _ _ _ _ _)))) _ _ _); k_dflt (refine' args_loc ?F ?v ?a ?b ?c ?_; (case F => k_asm); (case a => rfl); (case b => rfl); (case v => rfl); (case c => decide))) | ((with_reducible show wpAny _ _ (spliced (backTo _ (starEach (PySem.Expr.Constant (Const.int _) _ _ :: _) _))) _ _ _); refine args_int ?_) | ((with_reducible show wpAny _ _ (spliced (backTo _ (starEach (PySem.Expr.Constant (Const.str _) _ _ :: _) _))) _ _ _); refine args_str ?_))
  k_with "eval Attribute Name" => ((with_reducible show wpAny _ _ (eval _ (envOf _ _ _ _ _)) _ _ _); k_dflt (refine' attr_loc ?F ?v ?a ?b ?c ?_; (case F => k_asm); (case a => rfl); (case b => rfl); (case v => rfl); (case c => decide)))
  k_with "eval Subscript" => (first | ((with_reducible show wpAny _ _ (eval (PySem.Expr.Subscript (PySem.Expr.Name _ _) (PySem.Expr.Constant (Const.int _) _ _) _) (envOf _ _ _ _ _)) _ _ _); k_dflt (refine' sub_loc_int ?F ?v ?a ?b ?c ?_; (case F => k_asm); (case a => rfl); (case b => rfl); (case v => rfl); (case c => decide))) | ((with_reducible show wpAny _ _ (eval (PySem.Expr.Subscript (PySem.Expr.Name _ _) _ _) (envOf _ _ _ _ _)) _ _ _); k_dflt (refine' sub_loc ?F ?v ?a ?b ?c ?_; (case F => k_asm); (case a => rfl); (case b => rfl); (case v => rfl); (case c => decide))))
  k_with "CompEnd" => (k_dflt (refine compEnd_t (by k_asm) (by k_asm) (by first | (simp only [LCg.Off3, and_true]; assumption) | assumption) (lts_of (by assumption)) (fun l hl => Or.inl hrows0) ?_))
  k_with "call ref cons nil" => (k_dflt (first | ((with_reducible show wpAny _ _ (call (Value.ref 698) _) _ _ _); (refine' unit_use ?wB ?wF ?wX ?wT ?wk ?wN ?whd ?_; (case wB => k_asm); (case wF => k_asm); (case wX => k_asm); (case wT => k_asm); (case wk => exact rfl); (case wN => k_asm); (case whd => ((try simp only [depth_mark, depth_deeper]); (try dsimp only [ktrTop]); (try dsimp only [Ex.depth]); (first | exact rmk (by assumption) (by exact Nat.le_of_ble_eq_true rfl) | exact rmk1 (by assumption) (by exact Nat.le_of_ble_eq_true rfl) | exact rmk2 (by assumption) (by exact Nat.le_of_ble_eq_true rfl) | exact rmk3 (by assumption) (by exact Nat.le_of_ble_eq_true rfl) | exact rmk4 (by assumption) (by exact Nat.le_of_ble_eq_true rfl) | exact rmk0 (by assumption) | omega))); intro x9 d9 l9 qu9 h9' tk9 F9 N9 ne9; (try simp only [List.map_cons, List.map_nil] at ne9); (have dn9 := desc_zero N9); (try simp only [List.map_cons, List.map_nil] at dn9))) | ((with_reducible show wpAny _ _ (call (Value.ref 141) _) _ _ _); (refine' mem_use ?wB ?wF ?wX ?wT ?wk ?wN ?whd ?_; (case wB => k_asm); (case wF => k_asm); (case wX => k_asm); (case wT => k_asm); (case wk => exact rfl); (case wN => k_asm); (case whd => ((try simp only [depth_mark, depth_deeper]); (try dsimp only [ktrTop]); (try dsimp only [Ex.depth]); (first | exact rmk (by assumption) (by exact Nat.le_of_ble_eq_true rfl) | exact rmk1 (by assumption) (by exact Nat.le_of_ble_eq_true rfl) | exact rmk2 (by assumption) (by exact Nat.le_of_ble_eq_true rfl) | exact rmk3 (by assumption) (by exact Nat.le_of_ble_eq_true rfl) | exact rmk4 (by assumption) (by exact Nat.le_of_ble_eq_true rfl) | exact rmk0 (by assumption) | omega))); intro n9 xm9 dm9 c9 h9' tk9 km0 km1 nn9 F9 N9 ne9; (try simp only [List.map_cons, List.map_nil] at ne9); (have dn9 := desc_zero N9); (try simp only [List.map_cons, List.map_nil] at dn9))) | ((with_reducible show wpAny _ _ (call (Value.ref 330) _) _ _ _); (refine' run_use ?wB ?wF ?wX ?wT ?wk ?wN ?whd ?_; (case wB => k_asm); (case wF => k_asm); (case wX => k_asm); (case wT => k_asm); (case wk => exact rfl); (case wN => k_asm); (case whd => ((try simp only [depth_mark, depth_deeper]); (try dsimp only [ktrTop]); (try dsimp only [Ex.depth]); (first | exact rmk (by assumption) (by exact Nat.le_of_ble_eq_true rfl) | exact rmk1 (by assumption) (by exact Nat.le_of_ble_eq_true rfl) | exact rmk2 (by assumption) (by exact Nat.le_of_ble_eq_true rfl) | exact rmk3 (by assumption) (by exact Nat.le_of_ble_eq_true rfl) | exact rmk4 (by assumption) (by exact Nat.le_of_ble_eq_true rfl) | exact rmk0 (by assumption) | omega))); intro fl9 fra9 x9 d9 ofl9 ofra9 h9' tk9 kr0 kr1 kr2 kr3 kr4 kr5 kr6 kr7 kr8 kr9 kr10 kr11 kr12 kr13 kr14 kr15 ts9 w0 w1 w2 w3 w4 w5 w6 F9 N9 ne9 i1 i2 i3 i4; (try simp only [List.map_cons, List.map_nil] at ne9); (have dn9 := desc_zero N9); (try simp only [List.map_cons, List.map_nil] at dn9)))))
  k_with "callWith ref nil nil" => ((with_reducible refine' callWith_K0 (K := Mine.hd.heap_1_39 w.params) ?k1 ?k2 ?_); (case k1 => exact Frag.In.keeps (K := Mine.hd.heap_1_39 w.params) (by k_asm) (Fr.keep (by k_asm))); (case k2 => k_is); (try dsimp only [List.nil_append, List.append_nil]))
  k_with "call ref nil" => (k_dflt (first | ((with_reducible show wpAny _ _ (call (Value.ref 659) _) _ _ _); (refine' dict_use ?wB ?wF ?wX ?wT ?wk ?wN (ctl_ok w _) ?whd ?_; (case wB => k_asm); (case wF => k_asm); (case wX => k_asm); (case wT => k_asm); (case wk => exact rfl); (case wN => k_asm); (case whd => ((try simp only [depth_mark, depth_deeper]); (try dsimp only [ktrTop]); (try dsimp only [Ex.depth]); (first | exact rmk (by assumption) (by exact Nat.le_of_ble_eq_true rfl) | exact rmk1 (by assumption) (by exact Nat.le_of_ble_eq_true rfl) | exact rmk2 (by assumption) (by exact Nat.le_of_ble_eq_true rfl) | exact rmk3 (by assumption) (by exact Nat.le_of_ble_eq_true rfl) | exact rmk4 (by assumption) (by exact Nat.le_of_ble_eq_true rfl) | exact rmk0 (by assumption) | omega))); intro dA oA hA' tkA FA NA neA ltA hdA loA)) | ((with_reducible show wpAny _ _ (call (Value.ref 561) _) _ _ _); (refine' dict_use ?wB ?wF ?wX ?wT ?wk ?wN (asg_ok w _) ?whd ?_; (case wB => k_asm); (case wF => k_asm); (case wX => k_asm); (case wT => k_asm); (case wk => exact rfl); (case wN => k_asm); (case whd => ((try simp only [depth_mark, depth_deeper]); (try dsimp only [ktrTop]); (try dsimp only [Ex.depth]); (first | exact rmk (by assumption) (by exact Nat.le_of_ble_eq_true rfl) | exact rmk1 (by assumption) (by exact Nat.le_of_ble_eq_true rfl) | exact rmk2 (by assumption) (by exact Nat.le_of_ble_eq_true rfl) | exact rmk3 (by assumption) (by exact Nat.le_of_ble_eq_true rfl) | exact rmk4 (by assumption) (by exact Nat.le_of_ble_eq_true rfl) | exact rmk0 (by assumption) | omega))); intro dB oB hB' tkB FB NB neB ltB hdB loB)) | ((with_reducible show wpAny _ _ (call (Value.ref 409) _) _ _ _); (refine' dict_use ?wB ?wF ?wX ?wT ?wk ?wN (plain_ok w _) ?whd ?_; (case wB => k_asm); (case wF => k_asm); (case wX => k_asm); (case wT => k_asm); (case wk => exact rfl); (case wN => k_asm); (case whd => ((try simp only [depth_mark, depth_deeper]); (try dsimp only [ktrTop]); (try dsimp only [Ex.depth]); (first | exact rmk (by assumption) (by exact Nat.le_of_ble_eq_true rfl) | exact rmk1 (by assumption) (by exact Nat.le_of_ble_eq_true rfl) | exact rmk2 (by assumption) (by exact Nat.le_of_ble_eq_true rfl) | exact rmk3 (by assumption) (by exact Nat.le_of_ble_eq_true rfl) | exact rmk4 (by assumption) (by exact Nat.le_of_ble_eq_true rfl) | exact rmk0 (by assumption) | omega))); intro dP oP hP' tkP FP NP neP ltP hdP loP; (have neP' := ne_push (n := 0) trivial neP); (try simp only [List.map_cons, List.map_nil] at neP'); (have dnP := desc_zero NP); (try simp only [List.map_cons, List.map_nil] at dnP))) | ((with_reducible show wpAny _ _ (call (Value.ref 677) _) _ _ _); (refine' lim_use ?wB ?wF ?wX ?wT ?wk ?wN ?whd ?_; (case wB => k_asm); (case wF => k_asm); (case wX => k_asm); (case wT => k_asm); (case wk => exact rfl); (case wN => k_asm); (case whd => ((try simp only [depth_mark, depth_deeper]); (try dsimp only [ktrTop]); (try dsimp only [Ex.depth]); (first | exact rmk (by assumption) (by exact Nat.le_of_ble_eq_true rfl) | exact rmk1 (by assumption) (by exact Nat.le_of_ble_eq_true rfl) | exact rmk2 (by assumption) (by exact Nat.le_of_ble_eq_true rfl) | exact rmk3 (by assumption) (by exact Nat.le_of_ble_eq_true rfl) | exact rmk4 (by assumption) (by exact Nat.le_of_ble_eq_true rfl) | exact rmk0 (by assumption) | omega))); intro x9 d9 h9' tk9 kl0 kl1 kl2 kl3 kl4 kl5 kl6 kl7 F9 N9 ne9; (try simp only [List.map_cons, List.map_nil] at ne9); (have dn9 := desc_zero N9); (try simp only [List.map_cons, List.map_nil] at dn9)))))
  k_with "getMethod ref" => ((with_reducible show wpAny _ _ (getMethod (Value.ref dA) _ _) _ _ _); k_dflt (refine upd_method (by k_asm) (by k_mem) hdA ?_))
  k_with "call builtin:dict.update" => (k_dflt (refine' upd_use ?wF ?wN ?h1 ?h2 hdA hdB loB ?sz ?_; (case wF => k_asm); (case wN => k_asm); (case h1 => exact neB _ (.head _)); (case h2 => exact neA); (case sz => rw [sizeLine_eq]; exact Nat.le_of_ble_eq_true rfl); intro hU oU FU NU hdU))
  iterate 156 (first | (k_unfold; (try dsimp only)) | (k_end; wrow_close) | walk1 | (dsimp only; walk1) | (leave1; (try dsimp only)) | fail "no step")
  k_with "eval Dict cons cons" => (k_dflt (refine' Dict_made (knd := PySem.intKind _ _) ?F ?a ?l ?e ?n ?_; (case F => k_asm); (case a => rfl); (case l => rfl); (case e => exact List.cons_ne_nil _ _); (case n => exact Nat.le_of_ble_eq_true rfl)); intro _)
  iterate 8 (first | (k_unfold; (try dsimp only)) | (k_end; wrow_close) | walk1 | (dsimp only; walk1) | (leave1; (try dsimp only)) | fail "no step")
  (with_reducible rename News _ _ _ _ => N9)
  (with_reducible rename Fr _ _ _ _ => F9)
  have nA := ne_of_news N9 (ne_cat (m := 1) (desc_ne (by assumption)) (ne_cat (m := 4) (by assumption) (ne_cat (m := 1) (by assumption) (ne_cat (m := 1) (desc_ne (by assumption)) (ne_cat (m := 2) (n := 3) (by assumption) (by assumption))))))
  simp only [List.map_cons, List.map_nil] at nA
  have rd := Ready6.mk (w := w) (gM := gM) (LM := LM) (rows := rows) (date := date) (r0 := r0) (s0 := s0) (x0 := x0) (r1 := r1) (s1 := s1) (x1 := x1) (r2 := r2) (s2 := s2) (x2 := x2) (r3 := r3) (s3 := s3) (x3 := x3) (r4 := r4) (s4 := s4) (x4 := x4) (r5 := r5) (s5 := s5) (x5 := x5) (d1 := d1) (d2 := d2) (d3 := d3) (I := I) (J := J) (K := K) ⟨_, _, _, _, _, _, _, _, _, _, _, _, _, _, _, .none, _, .none, _, .none, _, _, _, _, _, _, _, _, _, _, _, _, _, _, _, _, _, _, _, _, _, _, _, _, _, _, _, _, _, _, _, _, _, _, _, .none, _, _, _, fun _ => 0, fun _ => 0, fun _ => .none, fun _ => 0, fun _ => 0, fun _ => 0, fun _ => 0, fun _ => 0, _⟩ ⟨fun _ => 0, fun _ => 0, fun _ => 0, _, _, _, _, _⟩ _ _ _ _ _ _ _ _ _ _ _ _ _ ⟨_, _, _, _, _, _, _, _, _, _, _, _, _, _, _, _, _, _, _, _, _, _, _, _, _, _, _⟩ _ _ _ _ _ _ _ _ _ _ _ rfl (news_sub (lt' := (_, lstN [.none, .none, .none, .none, .none, .none] _) :: (_, _) :: [(_, _), (_, _), (_, _), (_, _), (_, _), (_, _), (_, _), (_, _), (_, _), (_, _), (_, _), (_, _), (_, _), (_, _), (_, _), (_, _), (_, _), (_, _), (_, _), (_, _), (_, _), (_, _), (_, _), (_, _), (_, _), (_, _), (_, _), (_, _)]) N9 (fmc (.tail _ (.tail _ (.tail _ (.tail _ (.tail _ (.tail _ (.tail _ (.tail _ (.tail _ (.head _)))))))))) ((fmc (.tail _ (.tail _ (.head _))) ((fmc (.tail _ (.tail _ (.tail _ (.head _)))) ((fmc (.tail _ (.tail _ (.tail _ (.tail _ (.head _))))) ((fmc (.tail _ (.tail _ (.tail _ (.tail _ (.tail _ (.head _)))))) ((fmc (.head _) ((fmc (.tail _ (.tail _ (.tail _ (.tail _ (.tail _ (.tail _ (.tail _ (.tail _ (.tail _ (.tail _ (.head _))))))))))) ((fmc (.tail _ (.tail _ (.tail _ (.tail _ (.tail _ (.tail _ (.tail _ (.tail _ (.tail _ (.tail _ (.tail _ (.head _)))))))))))) ((fmc (.tail _ (.tail _ (.tail _ (.tail _ (.tail _ (.tail _ (.tail _ (.head _)))))))) ((fmc (.tail _ (.tail _ (.tail _ (.tail _ (.tail _ (.tail _ (.tail _ (.tail _ (.head _))))))))) ((fmc (.tail _ (.tail _ (.tail _ (.tail _ (.tail _ (.tail _ (.tail _ (.tail _ (.tail _ (.tail _ (.tail _ (.tail _ (.tail _ (.head _)))))))))))))) ((fmc (.tail _ (.head _)) ((fmc (.tail _ (.tail _ (.tail _ (.tail _ (.tail _ (.tail _ (.tail _ (.tail _ (.tail _ (.tail _ (.tail _ (.tail _ (.tail _ (.tail _ (.tail _ (.tail _ (.tail _ (.tail _ (.tail _ (.tail _ (.tail _ (.tail _ (.tail _ (.tail _ (.tail _ (.tail _ (.head _))))))))))))))))))))))))))) ((fmc (.tail _ (.tail _ (.tail _ (.tail _ (.tail _ (.tail _ (.tail _ (.tail _ (.tail _ (.tail _ (.tail _ (.tail _ (.tail _ (.tail _ (.tail _ (.tail _ (.tail _ (.tail _ (.tail _ (.tail _ (.tail _ (.tail _ (.tail _ (.tail _ (.tail _ (.tail _ (.tail _ (.head _)))))))))))))))))))))))))))) ((fmc (.tail _ (.tail _ (.tail _ (.tail _ (.tail _ (.tail _ (.tail _ (.tail _ (.tail _ (.tail _ (.tail _ (.tail _ (.tail _ (.tail _ (.head _))))))))))))))) ((fmc (.tail _ (.tail _ (.tail _ (.tail _ (.tail _ (.tail _ (.tail _ (.tail _ (.tail _ (.tail _ (.tail _ (.tail _ (.tail _ (.tail _ (.tail _ (.tail _ (.tail _ (.tail _ (.tail _ (.tail _ (.tail _ (.tail _ (.tail _ (.tail _ (.head _))))))))))))))))))))))))) ((fmc (.tail _ (.tail _ (.tail _ (.tail _ (.tail _ (.tail _ (.tail _ (.tail _ (.tail _ (.tail _ (.tail _ (.tail _ (.tail _ (.tail _ (.tail _ (.tail _ (.tail _ (.tail _ (.tail _ (.tail _ (.tail _ (.tail _ (.tail _ (.head _)))))))))))))))))))))))) ((fmc (.tail _ (.tail _ (.tail _ (.tail _ (.tail _ (.tail _ (.tail _ (.tail _ (.tail _ (.tail _ (.tail _ (.tail _ (.tail _ (.tail _ (.tail _ (.tail _ (.tail _ (.tail _ (.tail _ (.tail _ (.tail _ (.tail _ (.head _))))))))))))))))))))))) ((fmc (.tail _ (.tail _ (.tail _ (.tail _ (.tail _ (.tail _ (.tail _ (.tail _ (.tail _ (.tail _ (.tail _ (.tail _ (.tail _ (.tail _ (.tail _ (.tail _ (.tail _ (.tail _ (.tail _ (.tail _ (.tail _ (.head _)))))))))))))))))))))) ((fmc (.tail _ (.tail _ (.tail _ (.tail _ (.tail _ (.tail _ (.tail _ (.tail _ (.tail _ (.tail _ (.tail _ (.tail _ (.tail _ (.tail _ (.tail _ (.tail _ (.tail _ (.tail _ (.tail _ (.tail _ (.head _))))))))))))))))))))) ((fmc (.tail _ (.tail _ (.tail _ (.tail _ (.tail _ (.tail _ (.tail _ (.tail _ (.tail _ (.tail _ (.tail _ (.tail _ (.tail _ (.tail _ (.tail _ (.tail _ (.tail _ (.tail _ (.tail _ (.head _)))))))))))))))))))) ((fmc (.tail _ (.tail _ (.tail _ (.tail _ (.tail _ (.tail _ (.tail _ (.tail _ (.tail _ (.tail _ (.tail _ (.tail _ (.tail _ (.tail _ (.tail _ (.tail _ (.head _))))))))))))))))) ((fmc (.tail _ (.tail _ (.tail _ (.tail _ (.tail _ (.tail _ (.tail _ (.tail _ (.tail _ (.tail _ (.tail _ (.tail _ (.tail _ (.tail _ (.tail _ (.tail _ (.tail _ (.head _)))))))))))))))))) ((fmc (.tail _ (.tail _ (.tail _ (.tail _ (.tail _ (.tail _ (.tail _ (.tail _ (.tail _ (.tail _ (.tail _ (.tail _ (.tail _ (.tail _ (.tail _ (.tail _ (.tail _ (.tail _ (.tail _ (.tail _ (.tail _ (.tail _ (.tail _ (.tail _ (.tail _ (.tail _ (.tail _ (.tail _ (.head _))))))))))))))))))))))))))))) ((fmc (.tail _ (.tail _ (.tail _ (.tail _ (.tail _ (.tail _ (.tail _ (.tail _ (.tail _ (.tail _ (.tail _ (.tail _ (.tail _ (.tail _ (.tail _ (.tail _ (.tail _ (.tail _ (.tail _ (.tail _ (.tail _ (.tail _ (.tail _ (.tail _ (.tail _ (.tail _ (.tail _ (.tail _ (.tail _ (.head _)))))))))))))))))))))))))))))) ((fmc (.tail _ (.tail _ (.tail _ (.tail _ (.tail _ (.tail _ (.tail _ (.tail _ (.tail _ (.tail _ (.tail _ (.tail _ (.tail _ (.tail _ (.tail _ (.tail _ (.tail _ (.tail _ (.tail _ (.tail _ (.tail _ (.tail _ (.tail _ (.tail _ (.tail _ (.tail _ (.tail _ (.tail _ (.tail _ (.tail _ (.head _))))))))))))))))))))))))))))))) ((fmc (.tail _ (.tail _ (.tail _ (.tail _ (.tail _ (.tail _ (.tail _ (.tail _ (.tail _ (.tail _ (.tail _ (.tail _ (.tail _ (.tail _ (.tail _ (.tail _ (.tail _ (.tail _ (.tail _ (.tail _ (.tail _ (.tail _ (.tail _ (.tail _ (.tail _ (.tail _ (.tail _ (.tail _ (.tail _ (.tail _ (.tail _ (.head _)))))))))))))))))))))))))))))))) ((fmc (.tail _ (.tail _ (.tail _ (.tail _ (.tail _ (.tail _ (.tail _ (.tail _ (.tail _ (.tail _ (.tail _ (.tail _ (.tail _ (.tail _ (.tail _ (.tail _ (.tail _ (.tail _ (.tail _ (.tail _ (.tail _ (.tail _ (.tail _ (.tail _ (.tail _ (.tail _ (.tail _ (.tail _ (.tail _ (.tail _ (.tail _ (.tail _ (.head _))))))))))))))))))))))))))))))))) ((fmc (.tail _ (.tail _ (.tail _ (.tail _ (.tail _ (.tail _ (.tail _ (.tail _ (.tail _ (.tail _ (.tail _ (.tail _ (.tail _ (.tail _ (.tail _ (.tail _ (.tail _ (.tail _ (.tail _ (.tail _ (.tail _ (.tail _ (.tail _ (.tail _ (.tail _ (.tail _ (.tail _ (.tail _ (.tail _ (.tail _ (.tail _ (.tail _ (.tail _ (.head _)))))))))))))))))))))))))))))))))) ((fmc (.tail _ (.tail _ (.tail _ (.tail _ (.tail _ (.tail _ (.tail _ (.tail _ (.tail _ (.tail _ (.tail _ (.tail _ (.tail _ (.tail _ (.tail _ (.tail _ (.tail _ (.tail _ (.tail _ (.tail _ (.tail _ (.tail _ (.tail _ (.tail _ (.tail _ (.tail _ (.tail _ (.tail _ (.tail _ (.tail _ (.tail _ (.tail _ (.tail _ (.tail _ (.head _))))))))))))))))))))))))))))))))))) (List.forall_mem_nil _))))))))))))))))))))))))))))))))))))))))))))))))))))))))))))) F9 (.head _) (.tail _ (.head _)) (.tail _ (.tail _ (.head _))) (.tail _ (.tail _ (.tail _ (.head _)))) (.tail _ (.tail _ (.tail _ (.tail _ (.head _))))) (.tail _ (.tail _ (.tail _ (.tail _ (.tail _ (.head _)))))) (.tail _ (.tail _ (.tail _ (.tail _ (.tail _ (.tail _ (.head _))))))) (.tail _ (.tail _ (.tail _ (.tail _ (.tail _ (.tail _ (.tail _ (.head _)))))))) (.tail _ (.tail _ (.tail _ (.tail _ (.tail _ (.tail _ (.tail _ (.tail _ (.head _))))))))) (.tail _ (.tail _ (.tail _ (.tail _ (.tail _ (.tail _ (.tail _ (.tail _ (.tail _ (.head _)))))))))) (.tail _ (.tail _ (.tail _ (.tail _ (.tail _ (.tail _ (.tail _ (.tail _ (.tail _ (.tail _ (.head _))))))))))) (.tail _ (.tail _ (.tail _ (.tail _ (.tail _ (.tail _ (.tail _ (.tail _ (.tail _ (.tail _ (.tail _ (.head _)))))))))))) (.tail _ (.tail _ (.tail _ (.tail _ (.tail _ (.tail _ (.tail _ (.tail _ (.tail _ (.tail _ (.tail _ (.tail _ (.head _))))))))))))) (.tail _ (.tail _ (.tail _ (.tail _ (.tail _ (.tail _ (.tail _ (.tail _ (.tail _ (.tail _ (.tail _ (.tail _ (.tail _ (.head _)))))))))))))) (.tail _ (.tail _ (.tail _ (.tail _ (.tail _ (.tail _ (.tail _ (.tail _ (.tail _ (.tail _ (.tail _ (.tail _ (.tail _ (.tail _ (.head _))))))))))))))) (.tail _ (.tail _ (.tail _ (.tail _ (.tail _ (.tail _ (.tail _ (.tail _ (.tail _ (.tail _ (.tail _ (.tail _ (.tail _ (.tail _ (.tail _ (.head _)))))))))))))))) (.tail _ (.tail _ (.tail _ (.tail _ (.tail _ (.tail _ (.tail _ (.tail _ (.tail _ (.tail _ (.tail _ (.tail _ (.tail _ (.tail _ (.tail _ (.tail _ (.head _))))))))))))))))) (.tail _ (.tail _ (.tail _ (.tail _ (.tail _ (.tail _ (.tail _ (.tail _ (.tail _ (.tail _ (.tail _ (.tail _ (.tail _ (.tail _ (.tail _ (.tail _ (.tail _ (.head _)))))))))))))))))) (.tail _ (.tail _ (.tail _ (.tail _ (.tail _ (.tail _ (.tail _ (.tail _ (.tail _ (.tail _ (.tail _ (.tail _ (.tail _ (.tail _ (.tail _ (.tail _ (.tail _ (.tail _ (.head _))))))))))))))))))) (.tail _ (.tail _ (.tail _ (.tail _ (.tail _ (.tail _ (.tail _ (.tail _ (.tail _ (.tail _ (.tail _ (.tail _ (.tail _ (.tail _ (.tail _ (.tail _ (.tail _ (.tail _ (.tail _ (.head _)))))))))))))))))))) (.tail _ (.tail _ (.tail _ (.tail _ (.tail _ (.tail _ (.tail _ (.tail _ (.tail _ (.tail _ (.tail _ (.tail _ (.tail _ (.tail _ (.tail _ (.tail _ (.tail _ (.tail _ (.tail _ (.tail _ (.head _))))))))))))))))))))) (.tail _ (.tail _ (.tail _ (.tail _ (.tail _ (.tail _ (.tail _ (.tail _ (.tail _ (.tail _ (.tail _ (.tail _ (.tail _ (.tail _ (.tail _ (.tail _ (.tail _ (.tail _ (.tail _ (.tail _ (.tail _ (.head _)))))))))))))))))))))) (.tail _ (.tail _ (.tail _ (.tail _ (.tail _ (.tail _ (.tail _ (.tail _ (.tail _ (.tail _ (.tail _ (.tail _ (.tail _ (.tail _ (.tail _ (.tail _ (.tail _ (.tail _ (.tail _ (.tail _ (.tail _ (.tail _ (.head _))))))))))))))))))))))) (.tail _ (.tail _ (.tail _ (.tail _ (.tail _ (.tail _ (.tail _ (.tail _ (.tail _ (.tail _ (.tail _ (.tail _ (.tail _ (.tail _ (.tail _ (.tail _ (.tail _ (.tail _ (.tail _ (.tail _ (.tail _ (.tail _ (.tail _ (.head _)))))))))))))))))))))))) (.tail _ (.tail _ (.tail _ (.tail _ (.tail _ (.tail _ (.tail _ (.tail _ (.tail _ (.tail _ (.tail _ (.tail _ (.tail _ (.tail _ (.tail _ (.tail _ (.tail _ (.tail _ (.tail _ (.tail _ (.tail _ (.tail _ (.tail _ (.tail _ (.head _))))))))))))))))))))))))) (.tail _ (.tail _ (.tail _ (.tail _ (.tail _ (.tail _ (.tail _ (.tail _ (.tail _ (.tail _ (.tail _ (.tail _ (.tail _ (.tail _ (.tail _ (.tail _ (.tail _ (.tail _ (.tail _ (.tail _ (.tail _ (.tail _ (.tail _ (.tail _ (.tail _ (.head _)))))))))))))))))))))))))) (.tail _ (.tail _ (.tail _ (.tail _ (.tail _ (.tail _ (.tail _ (.tail _ (.tail _ (.tail _ (.tail _ (.tail _ (.tail _ (.tail _ (.tail _ (.tail _ (.tail _ (.tail _ (.tail _ (.tail _ (.tail _ (.tail _ (.tail _ (.tail _ (.tail _ (.tail _ (.head _))))))))))))))))))))))))))) (.tail _ (.tail _ (.tail _ (.tail _ (.tail _ (.tail _ (.tail _ (.tail _ (.tail _ (.tail _ (.tail _ (.tail _ (.tail _ (.tail _ (.tail _ (.tail _ (.tail _ (.tail _ (.tail _ (.tail _ (.tail _ (.tail _ (.tail _ (.tail _ (.tail _ (.tail _ (.tail _ (.head _)))))))))))))))))))))))))))) hdP loP (by assumption) (by assumption) (by assumption) (by assumption) hdU loA (by assumption) (by assumption) (⟨fmc (ne_two nA (i := 9) (j := 2) rfl rfl rfl rfl) ((fmc (ne_two nA (i := 9) (j := 3) rfl rfl rfl rfl) ((fmc (ne_two nA (i := 9) (j := 4) rfl rfl rfl rfl) ((fmc (ne_two nA (i := 9) (j := 5) rfl rfl rfl rfl) ((fmc (ne_two nA (i := 9) (j := 0) rfl rfl rfl rfl) ((fmc (ne_two nA (i := 9) (j := 10) rfl rfl rfl rfl) ((fmc (ne_two nA (i := 9) (j := 11) rfl rfl rfl rfl) ((fmc (ne_two nA (i := 9) (j := 7) rfl rfl rfl rfl) ((fmc (ne_two nA (i := 9) (j := 8) rfl rfl rfl rfl) ((fmc (ne_two nA (i := 9) (j := 13) rfl rfl rfl rfl) ((fmc (ne_two nA (i := 9) (j := 1) rfl rfl rfl rfl) ((fmc (ne_two nA (i := 9) (j := 26) rfl rfl rfl rfl) ((fmc (ne_two nA (i := 9) (j := 27) rfl rfl rfl rfl) ((fmc (ne_two nA (i := 9) (j := 14) rfl rfl rfl rfl) ((fmc (ne_two nA (i := 9) (j := 24) rfl rfl rfl rfl) ((fmc (ne_two nA (i := 9) (j := 23) rfl rfl rfl rfl) ((fmc (ne_two nA (i := 9) (j := 22) rfl rfl rfl rfl) ((fmc (ne_two nA (i := 9) (j := 21) rfl rfl rfl rfl) ((fmc (ne_two nA (i := 9) (j := 20) rfl rfl rfl rfl) ((fmc (ne_two nA (i := 9) (j := 19) rfl rfl rfl rfl) ((fmc (ne_two nA (i := 9) (j := 16) rfl rfl rfl rfl) ((fmc (ne_two nA (i := 9) (j := 17) rfl rfl rfl rfl) ((fmc (ne_two nA (i := 9) (j := 28) rfl rfl rfl rfl) ((fmc (ne_two nA (i := 9) (j := 29) rfl rfl rfl rfl) ((fmc (ne_two nA (i := 9) (j := 30) rfl rfl rfl rfl) ((fmc (ne_two nA (i := 9) (j := 31) rfl rfl rfl rfl) ((fmc (ne_two nA (i := 9) (j := 32) rfl rfl rfl rfl) ((fmc (ne_two nA (i := 9) (j := 33) rfl rfl rfl rfl) ((fmc (ne_two nA (i := 9) (j := 34) rfl rfl rfl rfl) (List.forall_mem_nil _))))))))))))))))))))))))))))))))))))))))))))))))))))))))), fmc (ne_two nA (i := 2) (j := 3) rfl rfl rfl rfl) ((fmc (ne_two nA (i := 2) (j := 4) rfl rfl rfl rfl) ((fmc (ne_two nA (i := 2) (j := 5) rfl rfl rfl rfl) ((fmc (ne_two nA (i := 2) (j := 0) rfl rfl rfl rfl) ((fmc (ne_two nA (i := 2) (j := 10) rfl rfl rfl rfl) ((fmc (ne_two nA (i := 2) (j := 11) rfl rfl rfl rfl) ((fmc (ne_two nA (i := 2) (j := 7) rfl rfl rfl rfl) ((fmc (ne_two nA (i := 2) (j := 8) rfl rfl rfl rfl) ((fmc (ne_two nA (i := 2) (j := 13) rfl rfl rfl rfl) ((fmc (ne_two nA (i := 2) (j := 1) rfl rfl rfl rfl) ((fmc (ne_two nA (i := 2) (j := 26) rfl rfl rfl rfl) ((fmc (ne_two nA (i := 2) (j := 27) rfl rfl rfl rfl) ((fmc (ne_two nA (i := 2) (j := 14) rfl rfl rfl rfl) ((fmc (ne_two nA (i := 2) (j := 24) rfl rfl rfl rfl) ((fmc (ne_two nA (i := 2) (j := 23) rfl rfl rfl rfl) ((fmc (ne_two nA (i := 2) (j := 22) rfl rfl rfl rfl) ((fmc (ne_two nA (i := 2) (j := 21) rfl rfl rfl rfl) ((fmc (ne_two nA (i := 2) (j := 20) rfl rfl rfl rfl) ((fmc (ne_two nA (i := 2) (j := 19) rfl rfl rfl rfl) ((fmc (ne_two nA (i := 2) (j := 16) rfl rfl rfl rfl) ((fmc (ne_two nA (i := 2) (j := 17) rfl rfl rfl rfl) ((fmc (ne_two nA (i := 2) (j := 28) rfl rfl rfl rfl) ((fmc (ne_two nA (i := 2) (j := 29) rfl rfl rfl rfl) ((fmc (ne_two nA (i := 2) (j := 30) rfl rfl rfl rfl) ((fmc (ne_two nA (i := 2) (j := 31) rfl rfl rfl rfl) ((fmc (ne_two nA (i := 2) (j := 32) rfl rfl rfl rfl) ((fmc (ne_two nA (i := 2) (j := 33) rfl rfl rfl rfl) ((fmc (ne_two nA (i := 2) (j := 34) rfl rfl rfl rfl) (List.forall_mem_nil _))))))))))))))))))))))))))))))))))))))))))))))))))))))), trivial⟩) (⟨ne_two nA (i := 5) (j := 4) rfl rfl rfl rfl, ne_two nA (i := 0) (j := 4) rfl rfl rfl rfl, ne_two nA (i := 2) (j := 4) rfl rfl rfl rfl, ne_two nA (i := 11) (j := 4) rfl rfl rfl rfl, ne_two nA (i := 8) (j := 4) rfl rfl rfl rfl, ne_two nA (i := 5) (j := 9) rfl rfl rfl rfl, ne_two nA (i := 0) (j := 9) rfl rfl rfl rfl, ne_two nA (i := 2) (j := 9) rfl rfl rfl rfl⟩) (fmc (⟨ne_two nA (i := 13) (j := 4) rfl rfl rfl rfl, ne_two nA (i := 13) (j := 9) rfl rfl rfl rfl⟩) ((fmc (⟨ne_two nA (i := 1) (j := 4) rfl rfl rfl rfl, ne_two nA (i := 1) (j := 9) rfl rfl rfl rfl⟩) ((fmc (⟨ne_two nA (i := 26) (j := 4) rfl rfl rfl rfl, ne_two nA (i := 26) (j := 9) rfl rfl rfl rfl⟩) ((fmc (⟨ne_two nA (i := 27) (j := 4) rfl rfl rfl rfl, ne_two nA (i := 27) (j := 9) rfl rfl rfl rfl⟩) ((fmc (⟨ne_two nA (i := 14) (j := 4) rfl rfl rfl rfl, ne_two nA (i := 14) (j := 9) rfl rfl rfl rfl⟩) (List.forall_mem_nil _)))))))))) (fmc (ne_two nA (i := 9) (j := 1) rfl rfl rfl rfl) ((fmc (ne_two nA (i := 2) (j := 1) rfl rfl rfl rfl) ((fmc (ne_two nA (i := 3) (j := 1) rfl rfl rfl rfl) ((fmc (ne_two nA (i := 4) (j := 1) rfl rfl rfl rfl) ((fmc (ne_two nA (i := 5) (j := 1) rfl rfl rfl rfl) ((fmc (ne_two nA (i := 0) (j := 1) rfl rfl rfl rfl) ((fmc (ne_two nA (i := 10) (j := 1) rfl rfl rfl rfl) ((fmc (ne_two nA (i := 11) (j := 1) rfl rfl rfl rfl) ((fmc (ne_two nA (i := 7) (j := 1) rfl rfl rfl rfl) ((fmc (ne_two nA (i := 8) (j := 1) rfl rfl rfl rfl) ((fmc (ne_two nA (i := 13) (j := 1) rfl rfl rfl rfl) ((fmc (ne_two nA (i := 26) (j := 1) rfl rfl rfl rfl) ((fmc (ne_two nA (i := 27) (j := 1) rfl rfl rfl rfl) ((fmc (ne_two nA (i := 14) (j := 1) rfl rfl rfl rfl) (List.forall_mem_nil _))))))))))))))))))))))))))))
  obtain ⟨r, u, oh, ofl, un, du, stl, a0, a1, a2, a3, a4, a5, a6, se, qu, ln, y0, y1, y2, y3, y4, y5, y6, y7, y8, Rl, h0, N8, F8, mR0, mR1, mR2, mR3, mR4, mR5, mR6, mR7, mR8, mR9, mR10, mR11, mR12, mR13, mR14, mR15, mR16, mR17, mR18, mR19, mR20, mR21, mR22, mR23, mR24, mR25, mR26, mR27, hex, lex, hope, lope, hfra, lfra, hoh, loh, hofl, lofl, NE2, sep, offR, hfl⟩ := rd
  obtain ⟨I', J', W', hruns, hW⟩ := wee_runs I J K hI hI2 hJ hJ2 hK9 hK2
  refine' lawrun_back w (rs := [⟨a0, s0, x0, y0, z0, "if", q0⟩, ⟨a1, s1, x1, y1, z1, "assign", q1⟩, ⟨a2, s2, x2, y2, z2, "assign", q2⟩, ⟨a3, s3, x3, y3, z3, "endif", q3⟩, ⟨a4, s4, x4, y4, z4, "assign", q4⟩, ⟨a5, s5, x5, y5, z5, "assign", q5⟩, ⟨a6, se, y6, y7, y8, "end", []⟩]) (cm := weeCmds) (e0 := ⟨I', J', K, 0, W', 0⟩) (keep := [(r0, tup [.int 0 x0, .ref s0]), (r1, tup [.int 0 x1, .ref s1]), (r2, tup [.int 0 x2, .ref s2]), (r3, tup [.int 0 x3, .ref s3]), (r4, tup [.int 0 x4, .ref s4]), (r5, tup [.int 0 x5, .ref s5]), (date, tup [.int I d1, .int J d2, .int K d3])]) shape_wee (by decide) hruns hd h0 mR0 mR1 mR2 mR3 mR4 mR5 mR6 mR7 mR8 mR9 mR10 mR11 mR12 mR27 (fmc mR21 (fmc mR22 (fmc mR23 (fmc mR24 (fmc mR25 (fmc mR26 (fmc mR27 (List.forall_mem_nil _)))))))) (fmc rfl (fmc rfl (fmc rfl (fmc rfl (fmc rfl (fmc rfl (fmc rfl (List.forall_mem_nil _)))))))) ?rw hex lex hope lope hfra lfra hoh loh hofl lofl NE2 sep offR hfl FGM BM XM TM N8 F8 ?hb ?hE ?ret
  case rw =>
    intro h' k1 k2
    exact ⟨⟨k2 _ mR13, k1 _ _ hs0⟩, hc0.keeps k1, ⟨k2 _ mR14, k1 _ _ hs1⟩, hc1.keeps k1, ⟨k2 _ mR15, k1 _ _ hs2⟩, hc2.keeps k1, ⟨k2 _ mR16, k1 _ _ hs3⟩, hc3.keeps k1, ⟨k2 _ mR17, k1 _ _ hs4⟩, hc4.keeps k1, ⟨k2 _ mR18, k1 _ _ hs5⟩, hc5.keeps k1, ⟨k2 _ mR19, k2 _ mR20⟩, ⟨rfl, rfl⟩, trivial⟩
  case hb => k_is
  case hE => passes_own
  case ret =>
    intro q tD tW h' tk' led m' Fq Nq mq kq
    repeat' ((with_reducible rename DescN _ _ => q9); clear q9)
    clear N9 F9 N8 F8
    repeat (first | (k_unfold; (try dsimp only)) | (k_end; wrow_close) | walk1 | (dsimp only; walk1) | (leave1; (try dsimp only)) | fail "no step")
    (with_reducible rename News h₀ L _ _ => N8)
    refine fun H => hret _ _ _ _ (H fun p hp => (N8 p (kq p hp)).1) N8 ⟨_, _, _, _, rfl, by rw [← hW]; exact mq⟩
theorem rows_T42 : True := by
  k_with_none
  k_with "k_room" => (((try simp only [depth_mark, depth_under_make, depth_under_kw, depth_in1, depth_deeper, depth_caller]); (try dsimp only [ktrTop]); (try simp only [recursionLimit]); (first | exact rmk (by assumption) (by exact Nat.le_of_ble_eq_true rfl) | exact rmk1 (by assumption) (by exact Nat.le_of_ble_eq_true rfl) | exact rmk2 (by assumption) (by exact Nat.le_of_ble_eq_true rfl) | exact rmk3 (by assumption) (by exact Nat.le_of_ble_eq_true rfl) | exact rmk4 (by assumption) (by exact Nat.le_of_ble_eq_true rfl) | exact rmk0 (by assumption) | omega)))
  k_with "k_mem" => ((change (_ ∈ (_ : List (Addr × Obj))); ktr_member))
  k_with "k_mem" => (((change (_ ∈ ((_ ++ _) : List (Addr × Obj)))); first | (refine List.mem_append.mpr (Or.inl ?_); k_mem) | (refine List.mem_append.mpr (Or.inr ?_); k_mem)))
  k_with "binaryOp LShift int int" => (((refine lshift_int_small (by decide) (by decide) (by decide) ?_); rw [show ((1:Int) * 2 ^ ((32:Int) - 1).toNat) = 2147483648 from rfl]))
  trivial
-- part W0
noncomputable def AndPost (h₀ : Heap) (L : Addr) (m : Str → Option Value) (news : List (Addr × Obj)) (s : Shared) (b : Bool) (v : Value) (s' : Shared) : Prop := ∃ h' tk', s' = { s with heap := h', toks := tk' } ∧ Fr h₀ L h' m ∧ News h₀ L h' news ∧ v = .bool b
theorem and_cut {prog : Program} {w : World} {A : Around} {E : Value → Shared → Prop} {s : Shared} {e : PySem.Expr} {env : Env} {h₀ : Heap} {L : Addr} {m : Str → Option Value} {news : List (Addr × Obj)} {Q : Value → Shared → Prop} (b : Bool) (_F : Fr h₀ L s.heap m) (_N : News h₀ L s.heap news)
    (h1 : wpAny (model prog w) A (eval e env) (AndPost h₀ L m news s b) E s)
    (h2 : ∀ h' tk', Fr h₀ L h' m → News h₀ L h' news → Q (.bool b) { s with heap := h', toks := tk' }) : wpAny (model prog w) A (eval e env) Q E s :=
  wpAny_mono h1 (fun v s' h => by obtain ⟨h', tk', e1, F', N', e2⟩ := h; subst e1; subst e2; exact h2 h' tk' F' N') fun _ _ x => x
theorem tick_use {w : World} {s : Shared} {clk row : Addr} {od : Obj} {ws : List Value} {ns : List Int} {nn : Nat} {i many : Int} {t0 tm : Tok} {news : List (Addr × Obj)} {g : Obj → List (Addr × Obj)} {loose : List Str} {mean : ExcName → Option Value} {mg mb : Str → Option Value} {dp un : Nat} {gd : Option (List Code)} {cn : Str} {cs : Scope} {a : Addr} {ccd : Value} {cl : List (Str × Addr)} {outer : List Env} {A₀ : Around} {base h₀ : Heap} {L : Addr} {m : Str → Option Value} {Q E : Value → Shared → Prop}
    (B : Below A₀ base outer h₀) (F : Fr h₀ L s.heap m) (X : (Mine.hd.heap_1_39 w.params).In h₀) (T : Top Mine.hd.view_1_40 loose mean mg mb h₀) (kf : cs.kind = .function) (N : News h₀ L s.heap news) (hm : (row, lstN ws nn) ∈ news) (U : UpdF clk od news g) (hod : od.IsDictOf (PySem.strKind PySem.Challenge.rw_zu0017_01.row.prog w) [(Str.ofString "row", .ref row), (Str.ofString "at", .int i t0)]) (hlo : (clk == sysModules) = false) (hne : @Ne Nat row clk) (hws : IntsAre ws ns) (hns : ns.length ≤ 3) (hi0 : 0 ≤ i) (hi1 : i < 10) (hm0 : 0 < many) (hm1 : many < 1000) (hd : dp + 10 < 1000)
    (ret : ∀ h' tk' od' k t t', Fr h₀ L h' m → News h₀ L h' (g od') → od'.IsDictOf (PySem.strKind PySem.Challenge.rw_zu0017_01.row.prog w) [(Str.ofString "row", .ref row), (Str.ofString "at", .int (i + 1) t)] → 0 ≤ k → k < many → Q (.int k t') { s with heap := h', toks := tk' }) :
    wpAny (model PySem.Challenge.rw_zu0017_01.row.prog w) (ktrTop dp un gd cn cs L a ccd cl outer) (call (.ref 710) [.ref clk, .int many tm]) Q E s := by
  (refine foldP ?_; intro P9)
  obtain ⟨pre, post, e1, e2, ha, hb⟩ := U.split
  k_unfold
  have hc : (clk, od) ∈ news := by rw [e1]; exact List.mem_append_right _ (.head _)
  refine tick_ok w s hod hlo hne hws hns hi0 hi1 hm0 hm1 _ _ _ _ _ _ _ _ _ _ _ _ _ _ _ _ _ _ _ _ ⟨B, F, X, T, kf⟩ (news_sub N (fmc (hc) ((fmc (hm) (List.forall_mem_nil _))))) hd fun h' tk' od' k t t' kp hN hd' k0 k1 => ?_
  have z := N _ hc
  refine ret h' tk' od' k t t' (fr_but F (fun b o e h1 _ => kp b o e h1) z.2.1 z.2.2 z.2.1 z.2.2) ?_ hd' k0 k1
  rw [e2]
  rw [e1] at N
  intro p hp
  rcases List.mem_append.mp hp with hp | hp
  · have y := N p (List.mem_append_left _ hp)
    exact ⟨kp _ _ y.1 (ha p hp), y.2⟩
  · rcases List.mem_cons.mp hp with rfl | hp
    · exact hN _ (.head _)
    · have y := N p (List.mem_append_right _ (.tail _ hp))
      exact ⟨kp _ _ y.1 (hb p hp), y.2⟩
/-- a statement's row, as the run wants it -/
noncomputable def RowOf (h : Heap) (led : List (Addr × Obj)) (v : Value) (wd : String) (c : Cmd) : Prop :=
  ∃ (r0 s0 : Addr) (q0 : List Value) (x0 z0 : Tok), v = .ref r0 ∧ (r0, tup [.int 0 x0, .ref s0]) ∈ led ∧ h.get? s0 = some (tup (.str (Str.ofString wd) z0 :: q0)) ∧ RowIs h ⟨r0, s0, 0, 0, z0, wd, q0⟩ c
theorem SetIn.row {h₀ h : Heap} {L : Addr} {led : List (Addr × Obj)} (N : News h₀ L h led) {v : Value} {x : Var} {e : Ex} (q : SetIn led v x e) : RowOf h led v "assign" (.asg x e) := by
  obtain ⟨r0, s0, t0, ve, k1, k2, k3, k4, k5, rfl, h1, h2, h3, h4⟩ := q
  exact ⟨r0, s0, _, k1, k2, rfl, h1, (N _ h2).1, rfl, t0, ve, k3, k4, k5, rfl, (N _ h3).1, h4.at' N⟩
theorem IfIn.row {h₀ h : Heap} {L : Addr} {led : List (Addr × Obj)} (N : News h₀ L h led) {v : Value} (q : IfIn led v) : RowOf h led v "if" (.iff .J 2) := by
  obtain ⟨r0, s0, b0, c, ve, k1, k2, k3, k4, k5, k6, k7, rfl, h1, h2, h3, h4, h5⟩ := q
  exact ⟨r0, s0, _, k1, k2, rfl, h1, (N _ h2).1, rfl, b0, c, ve, k3, k4, k5, k6, k7, rfl, (N _ h3).1, (N _ h4).1, h5.at' N⟩
theorem EndIn.row {h₀ h : Heap} {L : Addr} {led : List (Addr × Obj)} (N : News h₀ L h led) {v : Value} (q : EndIn led v) : RowOf h led v "endif" .on := by
  obtain ⟨r0, s0, k1, k2, rfl, h1, h2⟩ := q
  exact ⟨r0, s0, _, k1, k2, rfl, h1, (N _ h2).1, rfl, rfl⟩
theorem RowOf.keeps {h g : Heap} (k : ∀ b o, h.get? b = some o → g.get? b = some o) {led : List (Addr × Obj)} {v : Value} {wd : String} {c : Cmd} (q : RowOf h led v wd c) : RowOf g led v wd c := by
  obtain ⟨r0, s0, q0, x0, z0, h1, h2, h3, h4⟩ := q
  exact ⟨r0, s0, q0, x0, z0, h1, h2, k _ _ h3, h4.keeps k⟩
noncomputable def NumLed (h₀ : Heap) (L : Addr) (h : Heap) (a : Addr) : Prop :=
  ∃ (led : List (Addr × Obj)) (v0 v1 v2 : Value), News h₀ L h led ∧ (a, lst [v0, v1, v2]) ∈ led ∧ RowOf h led v0 "assign" (.asg .M n0M) ∧ RowOf h led v1 "assign" (.asg .D n1D) ∧ RowOf h led v2 "assign" (.asg .W n2W)
noncomputable def WeeLed (h₀ : Heap) (L : Addr) (h : Heap) (a : Addr) : Prop :=
  ∃ (led : List (Addr × Obj)) (v0 v1 v2 v3 v4 v5 : Value), News h₀ L h led ∧ (a, lst [v0, v1, v2, v3, v4, v5]) ∈ led ∧ RowOf h led v0 "if" (.iff .J 2) ∧ RowOf h led v1 "assign" (.asg .J w0J) ∧ RowOf h led v2 "assign" (.asg .I w1I) ∧ RowOf h led v3 "endif" .on ∧ RowOf h led v4 "assign" (.asg .W w2W) ∧ RowOf h led v5 "assign" (.asg .W w3W)
theorem news_keeps {h₀ h g : Heap} {L : Addr} (k : ∀ b o, h.get? b = some o → g.get? b = some o) {l : List (Addr × Obj)} (N : News h₀ L h l) : News h₀ L g l := fun q hq => ⟨k _ _ (N q hq).1, (N q hq).2⟩
theorem NumLed.keeps {h₀ h g : Heap} {L a : Addr} (k : ∀ b o, h.get? b = some o → g.get? b = some o) (q : NumLed h₀ L h a) : NumLed h₀ L g a := by
  obtain ⟨led, v0, v1, v2, N, h1, h2, h3, h4⟩ := q
  exact ⟨led, v0, v1, v2, news_keeps k N, h1, h2.keeps k, h3.keeps k, h4.keeps k⟩
theorem MakesL.use {w : World} {f : Addr} {nd : Nat} {vs : List Value} {s : Shared} {lt news : List (Addr × Obj)} {P : List (Addr × Obj) → Value → Prop} {loose : List Str} {mean : ExcName → Option Value} {mg mb : Str → Option Value} {dp un : Nat} {gd : Option (List Code)} {cn : Str} {cs : Scope} {a : Addr} {ccd : Value} {cl : List (Str × Addr)} {outer : List Env} {A₀ : Around} {base h₀ : Heap} {L : Addr} {m : Str → Option Value} {Q E : Value → Shared → Prop}
    (B : Below A₀ base outer h₀) (F : Fr h₀ L s.heap m) (X : (Mine.hd.heap_1_39 w.params).In h₀) (T : Top Mine.hd.view_1_40 loose mean mg mb h₀) (kf : cs.kind = .function) (N : News h₀ L s.heap news) (D : MakesL w f nd vs s lt P) (NL : News h₀ L s.heap lt) (hd : dp + nd < 1000)
    (ret : ∀ v h' tk' tl, Fr h₀ L h' m → News h₀ L h' tl → News h₀ L h' news → (∀ b o, s.heap.get? b = some o → h'.get? b = some o) → P tl v → Q v { s with heap := h', toks := tk' }) :
    wpAny (model PySem.Challenge.rw_zu0017_01.row.prog w) (ktrTop dp un gd cn cs L a ccd cl outer) (call (.ref f) vs) Q E s :=
  D _ _ _ _ _ _ _ _ _ _ _ _ _ _ _ _ _ _ _ _ ⟨B, F, X, T, kf⟩ NL hd fun v h' tk' tl kp hN hp => ret v h' tk' tl (F.keeps kp) hN (news_keeps kp N) kp hp
theorem numrun_use {w : World} {s : Shared} {r date : Addr} {I J K : Int} {d1 d2 d3 : Tok} {news : List (Addr × Obj)} {loose : List Str} {mean : ExcName → Option Value} {mg mb : Str → Option Value} {dp un : Nat} {gd : Option (List Code)} {cn : Str} {cs : Scope} {a : Addr} {ccd : Value} {cl : List (Str × Addr)} {outer : List Env} {A₀ : Around} {base h₀ : Heap} {L : Addr} {m : Str → Option Value} {Q E : Value → Shared → Prop}
    (B : Below A₀ base outer h₀) (F : Fr h₀ L s.heap m) (X : (Mine.hd.heap_1_39 w.params).In h₀) (T : Top Mine.hd.view_1_40 loose mean mg mb h₀) (kf : cs.kind = .function) (N : News h₀ L s.heap news) (NL : NumLed h₀ L s.heap r) (hm : (date, tup [.int I d1, .int J d2, .int K d3]) ∈ news) (hI : 1600 ≤ I ∧ I ≤ 2401) (hJ : 1 ≤ J ∧ J ≤ 12) (hK : 1 ≤ K ∧ K ≤ 31) (hd : dp + 200 < 1000)
    (ret : ∀ q tD tW h' tk', Fr h₀ L h' m → News h₀ L h' ((q, tup [.int (numD I J K) tD, .int (numW (numD I J K)) tW]) :: news) → Q (.ref q) { s with heap := h', toks := tk' }) :
    wpAny (model PySem.Challenge.rw_zu0017_01.row.prog w) (ktrTop dp un gd cn cs L a ccd cl outer) (call (.ref 743) [.ref r, .ref date]) Q E s := by
  (refine foldP ?_; intro P9)
  obtain ⟨led, v0, v1, v2, NL, hr, ⟨r0, s0, q0, x0, z0, rfl, m0, g0, c0⟩, ⟨r1, s1, q1, x1, z1, rfl, m1, g1, c1⟩, ⟨r2, s2, q2, x2, z2, rfl, m2, g2, c2⟩⟩ := NL
  k_unfold
  refine MakesL.use B F X T kf N (lawrun_num w s (x0 := x0) (x1 := x1) (x2 := x2) (d1 := d1) (d2 := d2) (d3 := d3) hI.1 hI.2 hJ.1 hJ.2 hK.1 hK.2 g0 c0 g1 c1 g2 c2) ?_ hd fun v h' tk' tl F' hT N' kp ⟨q, tD, tW, e, hq⟩ => ?_
  · exact fmc (NL _ hr) ((fmc (NL _ m0) ((fmc (NL _ m1) ((fmc (NL _ m2) ((fmc (N _ hm) (List.forall_mem_nil _)))))))))
  · subst e
    exact ret q tD tW h' tk' F' (fmc (hT _ hq) (N'))
theorem weerun_use {w : World} {s : Shared} {r date : Addr} {I J K : Int} {d1 d2 d3 : Tok} {news : List (Addr × Obj)} {loose : List Str} {mean : ExcName → Option Value} {mg mb : Str → Option Value} {dp un : Nat} {gd : Option (List Code)} {cn : Str} {cs : Scope} {a : Addr} {ccd : Value} {cl : List (Str × Addr)} {outer : List Env} {A₀ : Around} {base h₀ : Heap} {L : Addr} {m : Str → Option Value} {Q E : Value → Shared → Prop}
    (B : Below A₀ base outer h₀) (F : Fr h₀ L s.heap m) (X : (Mine.hd.heap_1_39 w.params).In h₀) (T : Top Mine.hd.view_1_40 loose mean mg mb h₀) (kf : cs.kind = .function) (N : News h₀ L s.heap news) (NL : WeeLed h₀ L s.heap r) (hm : (date, tup [.int I d1, .int J d2, .int K d3]) ∈ news) (hI : 1600 ≤ I ∧ I ≤ 2401) (hJ : 1 ≤ J ∧ J ≤ 12) (hK : 1 ≤ K ∧ K ≤ 31) (hd : dp + 200 < 1000)
    (ret : ∀ q D W tD tW h' tk', W = (if J ≤ 2 then weeW (I - 1) (J + 12) K else weeW I J K) → Fr h₀ L h' m → News h₀ L h' ((q, tup [.int D tD, .int W tW]) :: news) → Q (.ref q) { s with heap := h', toks := tk' }) :
    wpAny (model PySem.Challenge.rw_zu0017_01.row.prog w) (ktrTop dp un gd cn cs L a ccd cl outer) (call (.ref 743) [.ref r, .ref date]) Q E s := by
  (refine foldP ?_; intro P9)
  obtain ⟨led, v0, v1, v2, v3, v4, v5, NL, hr, ⟨r0, s0, q0, x0, z0, rfl, m0, g0, c0⟩, ⟨r1, s1, q1, x1, z1, rfl, m1, g1, c1⟩, ⟨r2, s2, q2, x2, z2, rfl, m2, g2, c2⟩, ⟨r3, s3, q3, x3, z3, rfl, m3, g3, c3⟩, ⟨r4, s4, q4, x4, z4, rfl, m4, g4, c4⟩, ⟨r5, s5, q5, x5, z5, rfl, m5, g5, c5⟩⟩ := NL
  k_unfold
  refine MakesL.use B F X T kf N (lawrun_wee w s (x0 := x0) (x1 := x1) (x2 := x2) (x3 := x3) (x4 := x4) (x5 := x5) (d1 := d1) (d2 := d2) (d3 := d3) hI.1 hI.2 hJ.1 hJ.2 hK.1 hK.2 g0 c0 g1 c1 g2 c2 g3 c3 g4 c4 g5 c5) ?_ hd fun v h' tk' tl F' hT N' kp ⟨q, D, tD, tW, e, hq⟩ => ?_
  · exact fmc (NL _ hr) ((fmc (NL _ m0) ((fmc (NL _ m1) ((fmc (NL _ m2) ((fmc (NL _ m3) ((fmc (NL _ m4) ((fmc (NL _ m5) ((fmc (N _ hm) (List.forall_mem_nil _)))))))))))))))
  · subst e
    exact ret q D _ tD tW h' tk' rfl F' (fmc (hT _ hq) (N'))
theorem num_use2 {w : World} {s : Shared} {news : List (Addr × Obj)} {loose : List Str} {mean : ExcName → Option Value} {mg mb : Str → Option Value} {dp un : Nat} {gd : Option (List Code)} {cn : Str} {cs : Scope} {a : Addr} {ccd : Value} {cl : List (Str × Addr)} {outer : List Env} {A₀ : Around} {base h₀ : Heap} {L : Addr} {m : Str → Option Value} {Q E : Value → Shared → Prop}
    (B : Below A₀ base outer h₀) (F : Fr h₀ L s.heap m) (X : (Mine.hd.heap_1_39 w.params).In h₀) (T : Top Mine.hd.view_1_40 loose mean mg mb h₀) (kf : cs.kind = .function) (N : News h₀ L s.heap news) (hd : dp + 13 < 1000)
    (ret : ∀ r tl h' tk', Fr h₀ L h' m → News h₀ L h' (news ++ tl) → NumRows tl (.ref r) → Q (.ref r) { s with heap := h', toks := tk' }) :
    wpAny (model PySem.Challenge.rw_zu0017_01.row.prog w) (ktrTop dp un gd cn cs L a ccd cl outer) (call (.ref 731) []) Q E s := by
  refine Makes.use B F X T kf N (num_ok w s) hd fun v h' tk' tl F' N' _ _ hp => ?_
  have hp' := hp
  (refine foldP ?_; intro P9)
  obtain ⟨r, v0, v1, v2, e, _⟩ := hp'
  k_unfold
  subst e
  exact ret r tl h' tk' F' (fun q hq => N' q ((List.mem_append.mp hq).elim (List.mem_append_right _) (List.mem_append_left _))) hp
theorem wee_use2 {w : World} {s : Shared} {news : List (Addr × Obj)} {loose : List Str} {mean : ExcName → Option Value} {mg mb : Str → Option Value} {dp un : Nat} {gd : Option (List Code)} {cn : Str} {cs : Scope} {a : Addr} {ccd : Value} {cl : List (Str × Addr)} {outer : List Env} {A₀ : Around} {base h₀ : Heap} {L : Addr} {m : Str → Option Value} {Q E : Value → Shared → Prop}
    (B : Below A₀ base outer h₀) (F : Fr h₀ L s.heap m) (X : (Mine.hd.heap_1_39 w.params).In h₀) (T : Top Mine.hd.view_1_40 loose mean mg mb h₀) (kf : cs.kind = .function) (N : News h₀ L s.heap news) (hd : dp + 13 < 1000)
    (ret : ∀ r tl h' tk', Fr h₀ L h' m → News h₀ L h' (news ++ tl) → WeeRows tl (.ref r) → Q (.ref r) { s with heap := h', toks := tk' }) :
    wpAny (model PySem.Challenge.rw_zu0017_01.row.prog w) (ktrTop dp un gd cn cs L a ccd cl outer) (call (.ref 738) []) Q E s := by
  refine Makes.use B F X T kf N (wee_ok w s) hd fun v h' tk' tl F' N' _ _ hp => ?_
  have hp' := hp
  (refine foldP ?_; intro P9)
  obtain ⟨r, v0, v1, v2, v3, v4, v5, e, _⟩ := hp'
  k_unfold
  subst e
  exact ret r tl h' tk' F' (fun q hq => N' q ((List.mem_append.mp hq).elim (List.mem_append_right _) (List.mem_append_left _))) hp
theorem numrun_use2 {w : World} {s : Shared} {r date : Addr} {I J K : Int} {d1 d2 d3 : Tok} {news tl : List (Addr × Obj)} {loose : List Str} {mean : ExcName → Option Value} {mg mb : Str → Option Value} {dp un : Nat} {gd : Option (List Code)} {cn : Str} {cs : Scope} {a : Addr} {ccd : Value} {cl : List (Str × Addr)} {outer : List Env} {A₀ : Around} {base h₀ : Heap} {L : Addr} {m : Str → Option Value} {Q E : Value → Shared → Prop}
    (B : Below A₀ base outer h₀) (F : Fr h₀ L s.heap m) (X : (Mine.hd.heap_1_39 w.params).In h₀) (T : Top Mine.hd.view_1_40 loose mean mg mb h₀) (kf : cs.kind = .function) (N : News h₀ L s.heap news) (NR : NumRows tl (.ref r)) (hs : ∀ q ∈ tl, q ∈ news) (hm : (date, tup [.int I d1, .int J d2, .int K d3]) ∈ news) (hI : 1600 ≤ I ∧ I ≤ 2401) (hJ : 1 ≤ J ∧ J ≤ 12) (hK : 1 ≤ K ∧ K ≤ 31) (hd : dp + 200 < 1000)
    (ret : ∀ q tD tW h' tk', Fr h₀ L h' m → News h₀ L h' ((q, tup [.int (numD I J K) tD, .int (numW (numD I J K)) tW]) :: news) → Q (.ref q) { s with heap := h', toks := tk' }) :
    wpAny (model PySem.Challenge.rw_zu0017_01.row.prog w) (ktrTop dp un gd cn cs L a ccd cl outer) (call (.ref 743) [.ref r, .ref date]) Q E s := by
  (refine foldP ?_; intro P9)
  obtain ⟨r', v0, v1, v2, e, h1, h2, h3, h4⟩ := NR
  k_unfold
  cases e
  have N1 := news_sub N hs
  exact numrun_use B F X T kf N ⟨tl, v0, v1, v2, N1, h1, h2.row N1, h3.row N1, h4.row N1⟩ hm hI hJ hK hd ret
theorem weerun_use2 {w : World} {s : Shared} {r date : Addr} {I J K : Int} {d1 d2 d3 : Tok} {news tl : List (Addr × Obj)} {loose : List Str} {mean : ExcName → Option Value} {mg mb : Str → Option Value} {dp un : Nat} {gd : Option (List Code)} {cn : Str} {cs : Scope} {a : Addr} {ccd : Value} {cl : List (Str × Addr)} {outer : List Env} {A₀ : Around} {base h₀ : Heap} {L : Addr} {m : Str → Option Value} {Q E : Value → Shared → Prop}
    (B : Below A₀ base outer h₀) (F : Fr h₀ L s.heap m) (X : (Mine.hd.heap_1_39 w.params).In h₀) (T : Top Mine.hd.view_1_40 loose mean mg mb h₀) (kf : cs.kind = .function) (N : News h₀ L s.heap news) (NR : WeeRows tl (.ref r)) (hs : ∀ q ∈ tl, q ∈ news) (hm : (date, tup [.int I d1, .int J d2, .int K d3]) ∈ news) (hI : 1600 ≤ I ∧ I ≤ 2401) (hJ : 1 ≤ J ∧ J ≤ 12) (hK : 1 ≤ K ∧ K ≤ 31) (hd : dp + 200 < 1000)
    (ret : ∀ q D W tD tW h' tk', W = (if J ≤ 2 then weeW (I - 1) (J + 12) K else weeW I J K) → Fr h₀ L h' m → News h₀ L h' ((q, tup [.int D tD, .int W tW]) :: news) → Q (.ref q) { s with heap := h', toks := tk' }) :
    wpAny (model PySem.Challenge.rw_zu0017_01.row.prog w) (ktrTop dp un gd cn cs L a ccd cl outer) (call (.ref 743) [.ref r, .ref date]) Q E s := by
  (refine foldP ?_; intro P9)
  obtain ⟨r', v0, v1, v2, v3, v4, v5, e, h1, h2, h3, h4, h5, h6, h7⟩ := NR
  k_unfold
  cases e
  have N1 := news_sub N hs
  exact weerun_use B F X T kf N ⟨tl, v0, v1, v2, v3, v4, v5, N1, h1, h2.row N1, h3.row N1, h4.row N1, h5.row N1, h6.row N1, h7.row N1⟩ hm hI hJ hK hd ret
theorem behind_use {w : World} {s : Shared} {date : Addr} {Y M D : Int} {d1 d2 d3 : Tok} {news : List (Addr × Obj)} {loose : List Str} {mean : ExcName → Option Value} {mg mb : Str → Option Value} {dp un : Nat} {gd : Option (List Code)} {cn : Str} {cs : Scope} {a : Addr} {ccd : Value} {cl : List (Str × Addr)} {outer : List Env} {A₀ : Around} {base h₀ : Heap} {L : Addr} {m : Str → Option Value} {Q E : Value → Shared → Prop}
    (B : Below A₀ base outer h₀) (F : Fr h₀ L s.heap m) (X : (Mine.hd.heap_1_39 w.params).In h₀) (T : Top Mine.hd.view_1_40 loose mean mg mb h₀) (kf : cs.kind = .function) (N : News h₀ L s.heap news) (hm : (date, tup [.int Y d1, .int M d2, .int D d3]) ∈ news) (hY : 1 ≤ Y ∧ Y < 100000) (hM : 1 ≤ M ∧ M ≤ 12) (hD : 1 ≤ D ∧ D ≤ 31) (hd : dp + 8 < 1000)
    (ret : ∀ q Y' M' D' e1 e2 e3 h' tk', Fr h₀ L h' m → News h₀ L h' ((q, tup [.int Y' e1, .int M' e2, .int D' e3]) :: news) → Next Y M D Y' M' D' → Q (.ref q) { s with heap := h', toks := tk' }) :
    wpAny (model PySem.Challenge.rw_zu0017_01.row.prog w) (ktrTop dp un gd cn cs L a ccd cl outer) (call (.ref 757) [.ref date]) Q E s := by
  refine MakesL.use B F X T kf N (behind_ok w s hY.1 hY.2 hM.1 hM.2 hD.1 hD.2) (fmc (N _ hm) (List.forall_mem_nil _)) hd fun v h' tk' tl F' hT N' kp hP => ?_
  (refine foldP ?_; intro P9)
  obtain ⟨q, Y', M', D', e1, e2, e3, e, hq, hn⟩ := hP
  k_unfold
  subst e
  exact ret q Y' M' D' e1 e2 e3 h' tk' F' (fmc (hT _ hq) (N')) hn
theorem post_true (a b : List WData) : WTm.value PySem.Challenge.rw_zu0017_01.row.records PySem.Challenge.rw_zu0017_01.row.post { args := a, res := some (WData.bool true), after := b } = some (WData.bool true) := by
  wtm_val
theorem len_bounds (M : Int) (l : Bool) : 28 ≤ len M l ∧ len M l ≤ 31 := by
  unfold len
  split
  · split <;> lia
  · split <;> lia
theorem most_val {M : Int} (l : Bool) (h1 : 1 ≤ M) (h2 : M ≤ 12) : lenAt M + (if (decide (M = 2) && l) = true then 1 else 0) = len M l := by
  by_cases h : M = 2
  · rw [← len_two l h]; subst h; simp
  · rw [← len_other l h1 h2 h]; simp [h]
theorem next_bounds {Y M D Y' M' D' : Int} (h : Next Y M D Y' M' D') (hY : 1600 ≤ Y ∧ Y ≤ 2400) (hM : 1 ≤ M ∧ M ≤ 12) (hD : 1 ≤ D) : (1600 ≤ Y' ∧ Y' ≤ 2401) ∧ (1 ≤ M' ∧ M' ≤ 12) ∧ (1 ≤ D' ∧ D' ≤ 31) := by
  have hl := (len_bounds M (leap Y)).2
  rcases h with ⟨h1, e1, e2, e3⟩ | ⟨h1, h2, e1, e2, e3⟩ | ⟨h1, h2, e1, e2, e3⟩ <;> rw [e1, e2, e3]
  · exact ⟨⟨hY.1, Int.le_trans hY.2 (by decide)⟩, hM, Int.le_trans hD (Int.le_add_of_nonneg_right (by decide)), Int.le_trans (Int.add_one_le_of_lt h1) hl⟩
  · exact ⟨⟨hY.1, Int.le_trans hY.2 (by decide)⟩, ⟨Int.le_trans hM.1 (Int.le_add_of_nonneg_right (by decide)), Int.add_one_le_of_lt h2⟩, by decide, by decide⟩
  · exact ⟨⟨Int.le_trans hY.1 (Int.le_add_of_nonneg_right (by decide)), Int.add_le_add_right hY.2 1⟩, ⟨by decide, by decide⟩, by decide, by decide⟩
theorem next_day {Y M D Y' M' D' : Int} (h : Next Y M D Y' M' D') (hY : 1600 ≤ Y) (hM : 1 ≤ M ∧ M ≤ 12) (hD : D ≤ len M (leap Y)) : numD Y' M' D' = numD Y M D + 1 := by
  rcases h with ⟨h1, e1, e2, e3⟩ | ⟨h1, h2, e1, e2, e3⟩ | ⟨h1, h2, e1, e2, e3⟩
  · rw [e1, e2, e3]; exact day_next _ _ _ hY hM.1 hM.2
  · have e : D = len M (leap Y) := by lia
    rw [e1, e2, e3, e]; exact month_next _ _ hY hM.1 (by lia)
  · subst h2
    have e : D = len 12 (leap Y) := by lia
    rw [e1, e2, e3, e]; exact year_next _ hY
-- part W1
theorem yb1 {k : Int} (h0 : 0 ≤ k) (h1 : k < 800) : (1600 : Int) ≤ 1600 + k := by lia
theorem yb2 {k : Int} (h0 : 0 ≤ k) (h1 : k < 800) : 1600 + k ≤ 2401 := by lia
theorem yb3 {k : Int} (h0 : 0 ≤ k) (h1 : k < 800) : 1600 + k < 100000 := by lia
theorem yb4 {k : Int} (h0 : 0 ≤ k) (h1 : k < 800) : 1600 + k ≤ 2400 := by lia
theorem yb5 {k : Int} (h0 : 0 ≤ k) (h1 : k < 800) : 0 ≤ 1600 + k := by lia
theorem yb6 {k : Int} (h0 : 0 ≤ k) (h1 : k < 800) : 1 ≤ 1600 + k := by lia
theorem yb7 {k : Int} (h0 : 0 ≤ k) (h1 : k < 800) : 1600 ≤ 1600 + k + 1 := by lia
theorem yb8 {k : Int} (h0 : 0 ≤ k) (h1 : k < 800) : 1600 + k + 1 ≤ 2401 := by lia
theorem yb9 {k : Int} (h0 : 0 ≤ k) (h1 : k < 800) : 0 ≤ 1600 + k + 1 := by lia
theorem yb10 {k : Int} (h0 : 0 ≤ k) (h1 : k < 800) : 1600 + k + 1 < 100000 := by lia
theorem mb1 {k : Int} (h : 0 ≤ k) : 1 ≤ 1 + k := by lia
theorem mb2 {k : Int} (h : k < 12) : 1 + k ≤ 12 := by lia
theorem db1 {m k : Int} (h : k < m) : 1 ≤ m - k := by lia
theorem db2 {m k : Int} (h : 28 ≤ m ∧ m ≤ 31) (h0 : 0 ≤ k) : m - k ≤ 31 := by lia
theorem db3 {m k : Int} (h0 : 0 ≤ k) : m - k ≤ m := by lia
set_option maxHeartbeats 8000000 in
theorem law_holds : PySem.Challenge.rw_zu0017_01.Holds := Mine.hd.walk (by
  k_go0
  all_goals try k_fold
  k_with_none
  k_with "k_room" => (((try simp only [depth_mark, depth_under_make, depth_under_kw, depth_in1, depth_deeper, depth_caller]); (try dsimp only [ktrTop]); (try simp only [recursionLimit]); (first | exact rmk (by assumption) (by exact Nat.le_of_ble_eq_true rfl) | exact rmk1 (by assumption) (by exact Nat.le_of_ble_eq_true rfl) | exact rmk2 (by assumption) (by exact Nat.le_of_ble_eq_true rfl) | exact rmk3 (by assumption) (by exact Nat.le_of_ble_eq_true rfl) | exact rmk4 (by assumption) (by exact Nat.le_of_ble_eq_true rfl) | exact rmk0 (by assumption) | omega)))
  k_with "k_mem" => ((change (_ ∈ (_ : List (Addr × Obj))); ktr_member))
  k_with "k_mem" => (((change (_ ∈ ((_ ++ _) : List (Addr × Obj)))); first | (refine List.mem_append.mpr (Or.inl ?_); k_mem) | (refine List.mem_append.mpr (Or.inr ?_); k_mem)))
  k_with "binaryOp LShift int int" => (((refine lshift_int_small (by decide) (by decide) (by decide) ?_); rw [show ((1:Int) * 2 ^ ((32:Int) - 1).toNat) = 2147483648 from rfl]))
  k_with "eval Call Name cons nil" => (refine Call_ ?_)
  k_with "eval Call Attribute cons nil" => (refine MethodCall_ ?_)
  k_with "call ref cons nil" => (k_dflt (first | ((with_reducible show wpAny _ _ (call (Value.ref 710) _) _ _ _); (refine' tick_use ?wB ?wF ?wX ?wT ?wk ?wN ?hm ?U ?hod ?hlo ?hne ?hws ?hns ?hi0 ?hi1 ?hm0 ?hm1 ?whd ?_; (case wB => k_asm); (case wF => k_asm); (case wX => k_asm); (case wT => k_asm); (case wk => exact rfl); (case wN => k_asm); (case whd => ((try simp only [depth_mark, depth_under_make, depth_under_kw, depth_in1, depth_deeper, depth_caller]); (try dsimp only [ktrTop]); (first | decide | exact rmk (by assumption) (by exact Nat.le_of_ble_eq_true rfl) | exact rmk1 (by assumption) (by exact Nat.le_of_ble_eq_true rfl) | exact rmk2 (by assumption) (by exact Nat.le_of_ble_eq_true rfl) | exact rmk3 (by assumption) (by exact Nat.le_of_ble_eq_true rfl) | exact rmk4 (by assumption) (by exact Nat.le_of_ble_eq_true rfl) | exact rmk0 (by assumption) | omega))); (case hm => k_mem); (case U => first | exact UpdF.tail (by (refine neN ?_; omega)) (UpdF.head (fun _ h => nomatch h)) | exact UpdF.tail (by (refine neN ?_; omega)) (UpdF.tail (by (refine neN ?_; omega)) (UpdF.head (fun _ h => nomatch h)))); (case hod => assumption); (case hlo => assumption); (case hne => (refine neN ?_; omega)); (case hws => assumption); (case hns => first | exact List.length_take_le _ _ | omega); (case hi0 => first | decide | with_reducible assumption | omega); (case hi1 => first | decide | with_reducible assumption | omega); (case hm0 => first | decide | with_reducible assumption | omega); (case hm1 => first | decide | with_reducible assumption | omega)); intro h9' tk9 od9 k9 t9 t8 F9 N9 hd9 k90 k91; (try dsimp only at N9)) | ((with_reducible show wpAny _ _ (call (Value.ref 750) _) _ _ _); (refine' Does.use ?wB ?wF ?wX ?wT ?wk ?wN (leap_ok _ _ ?h0 ?h1 _) (fun _ hq => nomatch hq) ?whd ?_; (case wB => k_asm); (case wF => k_asm); (case wX => k_asm); (case wT => k_asm); (case wk => exact rfl); (case wN => k_asm); (case whd => ((try simp only [depth_mark, depth_under_make, depth_under_kw, depth_in1, depth_deeper, depth_caller]); (try dsimp only [ktrTop]); (first | decide | exact rmk (by assumption) (by exact Nat.le_of_ble_eq_true rfl) | exact rmk1 (by assumption) (by exact Nat.le_of_ble_eq_true rfl) | exact rmk2 (by assumption) (by exact Nat.le_of_ble_eq_true rfl) | exact rmk3 (by assumption) (by exact Nat.le_of_ble_eq_true rfl) | exact rmk4 (by assumption) (by exact Nat.le_of_ble_eq_true rfl) | exact rmk0 (by assumption) | omega))); (case h0 => first | with_reducible assumption | omega); (case h1 => first | with_reducible assumption | omega)); intro v9 h9' tk9 F9 N9 kp9 e9; subst e9) | ((with_reducible show wpAny _ _ (call (Value.ref 743) _) _ _ _); (refine' numrun_use2 ?wB ?wF ?wX ?wT ?wk ?wN ?nr ?hs ?hm ?hI ?hJ ?hK ?whd ?_; (case wB => k_asm); (case wF => k_asm); (case wX => k_asm); (case wT => k_asm); (case wk => exact rfl); (case wN => k_asm); (case whd => ((try simp only [depth_mark, depth_under_make, depth_under_kw, depth_in1, depth_deeper, depth_caller]); (try dsimp only [ktrTop]); (first | decide | exact rmk (by assumption) (by exact Nat.le_of_ble_eq_true rfl) | exact rmk1 (by assumption) (by exact Nat.le_of_ble_eq_true rfl) | exact rmk2 (by assumption) (by exact Nat.le_of_ble_eq_true rfl) | exact rmk3 (by assumption) (by exact Nat.le_of_ble_eq_true rfl) | exact rmk4 (by assumption) (by exact Nat.le_of_ble_eq_true rfl) | exact rmk0 (by assumption) | omega))); (case nr => assumption); (case hs => (intro q hq; repeat (first | exact hq | exact List.mem_append_right _ hq | refine List.mem_cons_of_mem _ ?_))); (case hm => k_mem); (case hI => (refine And.intro ?_ ?_ <;> first | with_reducible assumption | omega)); (case hJ => (refine And.intro ?_ ?_ <;> first | with_reducible assumption | omega)); (case hK => (refine And.intro ?_ ?_ <;> first | with_reducible assumption | omega))); intro q9 tD9 tW9 h9' tk9 F9 N9) | ((with_reducible show wpAny _ _ (call (Value.ref 743) _) _ _ _); (refine' weerun_use2 ?wB ?wF ?wX ?wT ?wk ?wN ?nr ?hs ?hm ?hI ?hJ ?hK ?whd ?_; (case wB => k_asm); (case wF => k_asm); (case wX => k_asm); (case wT => k_asm); (case wk => exact rfl); (case wN => k_asm); (case whd => ((try simp only [depth_mark, depth_under_make, depth_under_kw, depth_in1, depth_deeper, depth_caller]); (try dsimp only [ktrTop]); (first | decide | exact rmk (by assumption) (by exact Nat.le_of_ble_eq_true rfl) | exact rmk1 (by assumption) (by exact Nat.le_of_ble_eq_true rfl) | exact rmk2 (by assumption) (by exact Nat.le_of_ble_eq_true rfl) | exact rmk3 (by assumption) (by exact Nat.le_of_ble_eq_true rfl) | exact rmk4 (by assumption) (by exact Nat.le_of_ble_eq_true rfl) | exact rmk0 (by assumption) | omega))); (case nr => assumption); (case hs => (intro q hq; repeat (first | exact hq | exact List.mem_append_right _ hq | refine List.mem_cons_of_mem _ ?_))); (case hm => k_mem); (case hI => (refine And.intro ?_ ?_ <;> first | with_reducible assumption | omega)); (case hJ => (refine And.intro ?_ ?_ <;> first | with_reducible assumption | omega)); (case hK => (refine And.intro ?_ ?_ <;> first | with_reducible assumption | omega))); intro q9 D9 W9 tD9 tW9 h9' tk9 hW9 F9 N9) | ((with_reducible show wpAny _ _ (call (Value.ref 757) _) _ _ _); (refine' behind_use ?wB ?wF ?wX ?wT ?wk ?wN ?hm ?hY ?hM ?hD ?whd ?_; (case wB => k_asm); (case wF => k_asm); (case wX => k_asm); (case wT => k_asm); (case wk => exact rfl); (case wN => k_asm); (case whd => ((try simp only [depth_mark, depth_under_make, depth_under_kw, depth_in1, depth_deeper, depth_caller]); (try dsimp only [ktrTop]); (first | decide | exact rmk (by assumption) (by exact Nat.le_of_ble_eq_true rfl) | exact rmk1 (by assumption) (by exact Nat.le_of_ble_eq_true rfl) | exact rmk2 (by assumption) (by exact Nat.le_of_ble_eq_true rfl) | exact rmk3 (by assumption) (by exact Nat.le_of_ble_eq_true rfl) | exact rmk4 (by assumption) (by exact Nat.le_of_ble_eq_true rfl) | exact rmk0 (by assumption) | omega))); (case hm => k_mem); (case hY => (refine And.intro ?_ ?_ <;> first | with_reducible assumption | omega)); (case hM => (refine And.intro ?_ ?_ <;> first | with_reducible assumption | omega)); (case hD => (refine And.intro ?_ ?_ <;> first | with_reducible assumption | omega))); intro q9 Y9 M9 D9 e91 e92 e93 h9' tk9 F9 N9 nx9)))
  k_with "callWith ref nil nil" => ((with_reducible refine' callWith_K0 (K := Mine.hd.heap_1_39 _) ?k1 ?k2 ?_); (case k1 => exact Frag.In.keeps (K := Mine.hd.heap_1_39 _) (by k_asm) (Fr.keep (by k_asm))); (case k2 => k_is); (try dsimp only [List.nil_append, List.append_nil]))
  k_with "call ref nil" => (k_dflt (first | ((with_reducible show wpAny _ _ (call (Value.ref 731) _) _ _ _); (refine' num_use2 ?wB ?wF ?wX ?wT ?wk ?wN ?whd ?_; (case wB => k_asm); (case wF => k_asm); (case wX => k_asm); (case wT => k_asm); (case wk => exact rfl); (case wN => k_asm); (case whd => ((try simp only [depth_mark, depth_under_make, depth_under_kw, depth_in1, depth_deeper, depth_caller]); (try dsimp only [ktrTop]); (first | decide | exact rmk (by assumption) (by exact Nat.le_of_ble_eq_true rfl) | exact rmk1 (by assumption) (by exact Nat.le_of_ble_eq_true rfl) | exact rmk2 (by assumption) (by exact Nat.le_of_ble_eq_true rfl) | exact rmk3 (by assumption) (by exact Nat.le_of_ble_eq_true rfl) | exact rmk4 (by assumption) (by exact Nat.le_of_ble_eq_true rfl) | exact rmk0 (by assumption) | omega)))); intro r9 tl9 h9' tk9 F9 N9 NR9; (try simp only [List.cons_append, List.nil_append] at N9)) | ((with_reducible show wpAny _ _ (call (Value.ref 738) _) _ _ _); (refine' wee_use2 ?wB ?wF ?wX ?wT ?wk ?wN ?whd ?_; (case wB => k_asm); (case wF => k_asm); (case wX => k_asm); (case wT => k_asm); (case wk => exact rfl); (case wN => k_asm); (case whd => ((try simp only [depth_mark, depth_under_make, depth_under_kw, depth_in1, depth_deeper, depth_caller]); (try dsimp only [ktrTop]); (first | decide | exact rmk (by assumption) (by exact Nat.le_of_ble_eq_true rfl) | exact rmk1 (by assumption) (by exact Nat.le_of_ble_eq_true rfl) | exact rmk2 (by assumption) (by exact Nat.le_of_ble_eq_true rfl) | exact rmk3 (by assumption) (by exact Nat.le_of_ble_eq_true rfl) | exact rmk4 (by assumption) (by exact Nat.le_of_ble_eq_true rfl) | exact rmk0 (by assumption) | omega)))); intro r9 tl9 h9' tk9 F9 N9 NR9; (try simp only [List.cons_append, List.nil_append] at N9))))
  iterate 35 (first | (k_unfold; (try dsimp only)) | (k_end; wrow_close) | walk1 | (dsimp only; walk1) | (leave1; (try dsimp only)) | fail "no step")
  obtain ⟨kY, hkY⟩ : ∃ y, y = k9 := ⟨_, rfl⟩
  subst hkY
  have y1 := yb1 k90 k91
  have y2 := yb2 k90 k91
  have y3 := yb3 k90 k91
  have y4 := yb4 k90 k91
  have y5 := yb5 k90 k91
  have y6 := yb6 k90 k91
  have y7 := yb7 k90 k91
  have y8 := yb8 k90 k91
  have y9 := yb9 k90 k91
  have y10 := yb10 k90 k91
  iterate 14 (first | (k_unfold; (try dsimp only)) | (k_end; wrow_close) | walk1 | (dsimp only; walk1) | (leave1; (try dsimp only)) | fail "no step")
  obtain ⟨kM, hkM⟩ : ∃ y, y = k9 := ⟨_, rfl⟩
  subst hkM
  have m1 := mb1 k90
  have m2 := mb2 k91
  iterate 26 (first | (k_unfold; (try dsimp only)) | (k_end; wrow_close) | walk1 | (dsimp only; walk1) | (leave1; (try dsimp only)) | fail "no step")
  refine' and_cut (decide (1 + kM = 2) && leap (1600 + kY)) ?cF ?cN ?c1 ?c2
  case cF => k_asm
  case cN => k_asm
  case c1 =>
    repeat (first | (k_unfold; (try dsimp only)) | (k_end; wrow_close) | walk1 | (dsimp only; walk1) | (leave1; (try dsimp only)) | fail "no step")
    exact ⟨_, _, rfl, by k_asm, by k_asm, congrArg Value.bool (by simp_all)⟩
    repeat (first | (k_unfold; (try dsimp only)) | (k_end; wrow_close) | walk1 | (dsimp only; walk1) | (leave1; (try dsimp only)) | fail "no step")
    exact ⟨_, _, rfl, by k_asm, by k_asm, congrArg Value.bool (by simp_all)⟩
  case c2 =>
    intro h9' tk9 F9 N9
    have hmost := most_val (M := 1 + kM) (leap (1600 + kY)) (by first | with_reducible assumption | omega) (by first | with_reducible assumption | omega)
    have hlb := len_bounds (1 + kM) (leap (1600 + kY))
    dsimp only [lenAt] at hmost
    iterate 3 (first | (k_unfold; (try dsimp only)) | (k_end; wrow_close) | walk1 | (dsimp only; walk1) | (leave1; (try dsimp only)) | fail "no step")
    rw [hmost]
    generalize hms : len (1 + kM) (leap (1600 + kY)) = most at hlb ⊢
    clear hmost
    iterate 22 (first | (k_unfold; (try dsimp only)) | (k_end; wrow_close) | walk1 | (dsimp only; walk1) | (leave1; (try dsimp only)) | fail "no step")
    obtain ⟨kD, hkD⟩ : ∃ y, y = k9 := ⟨_, rfl⟩
    subst hkD
    have d1 := db1 k91
    have d2 := db2 hlb k90
    have d3 := db3 (m := most) k90
    iterate 48 (first | (k_unfold; (try dsimp only)) | (k_end; wrow_close) | walk1 | (dsimp only; walk1) | (leave1; (try dsimp only)) | fail "no step")
    have nb := next_bounds nx9 ⟨by first | with_reducible assumption | omega, by first | with_reducible assumption | omega⟩ ⟨by first | with_reducible assumption | omega, by first | with_reducible assumption | omega⟩ (by first | with_reducible assumption | omega)
    obtain ⟨⟨nb1, nb2⟩, ⟨nb3, nb4⟩, ⟨nb5, nb6⟩⟩ := nb
    have nd := next_day nx9 (by first | with_reducible assumption | omega) ⟨by first | with_reducible assumption | omega, by first | with_reducible assumption | omega⟩ (by rw [hms]; exact d3)
    have hn0 : 0 ≤ numD (1600 + kY) (1 + kM) (most - kD) := numD_nonneg _ _ _ (by first | with_reducible assumption | omega) (by first | with_reducible assumption | omega) (by first | with_reducible assumption | omega) (by first | with_reducible assumption | omega)
    have nw : numW (numD Y9 M9 D9) = (numW (numD (1600 + kY) (1 + kM) (most - kD)) + 1).fmod 7 := by rw [nd, numW_next _ hn0, Int.fmod_eq_emod_of_nonneg _ (by decide)]
    have e1 : (numD Y9 M9 D9 == numD (1600 + kY) (1 + kM) (most - kD) + 1) = true := beq_iff_eq.mpr nd
    have e2 : (numW (numD Y9 M9 D9) == (numW (numD (1600 + kY) (1 + kM) (most - kD)) + 1).fmod 7) = true := beq_iff_eq.mpr nw
    have sd0 := same_day (1600 + kY) (1 + kM) (most - kD) (by first | with_reducible assumption | omega) (by first | with_reducible assumption | omega) (by first | with_reducible assumption | omega) (by first | with_reducible assumption | omega)
    iterate 28 (first | (k_unfold; (try dsimp only)) | (k_end; wrow_close) | walk1 | (dsimp only; walk1) | (leave1; (try dsimp only)) | fail "no step")
    refine PySem.W.ite_neg (by rw [e1, e2]; decide) ?_
    iterate 19 (first | (k_unfold; (try dsimp only)) | (k_end; wrow_close) | walk1 | (dsimp only; walk1) | (leave1; (try dsimp only)) | fail "no step")
    have sd : (W9 + 6).fmod 7 = numW (numD (1600 + kY) (1 + kM) (most - kD)) := by rw [hW9, Int.fmod_eq_emod_of_nonneg _ (by decide)]; exact sd0
    iterate 8 (first | (k_unfold; (try dsimp only)) | (k_end; wrow_close) | walk1 | (dsimp only; walk1) | (leave1; (try dsimp only)) | fail "no step")
    refine PySem.W.ite_neg (by first | exact fun h => h sd | (rw [sd]; simp)) ?_
    have yl := year_len (1600 + kY) (1 + kM) (by first | with_reducible assumption | omega) (by first | with_reducible assumption | omega) (by first | with_reducible assumption | omega)
    iterate 95 (first | (k_unfold; (try dsimp only)) | (k_end; wrow_close) | walk1 | (dsimp only; walk1) | (leave1; (try dsimp only)) | fail "no step")
    have hM3 : 1 + kM < 3 := by first | with_reducible assumption | omega
    rw [show (numD (1600 + kY + 1) (1 + kM) 1 - numD (1600 + kY) (1 + kM) 1 == 365 + if leap (1600 + kY) = true then 1 else 0) = true from beq_iff_eq.mpr (by rw [yl]; simp only [hM3, if_true])]
    refine goodW_bool (by assumption) (by assumption) (raisesW_false ?_) ?_
    · wrow_none_raised
    · exact postW_of (X := true) rfl (post_true _ _) rfl
    iterate 11 (first | (k_unfold; (try dsimp only)) | (k_end; wrow_close) | walk1 | (dsimp only; walk1) | (leave1; (try dsimp only)) | fail "no step")
    have hM3 : ¬ (1 + kM < 3) := by first | with_reducible assumption | omega
    rw [show (numD (1600 + kY + 1) (1 + kM) 1 - numD (1600 + kY) (1 + kM) 1 == 365 + if leap (1600 + kY + 1) = true then 1 else 0) = true from beq_iff_eq.mpr (by rw [yl]; simp only [hM3, if_false])]
    refine goodW_bool (by assumption) (by assumption) (raisesW_false ?_) ?_
    · wrow_none_raised
    · exact postW_of (X := true) rfl (post_true _ _) rfl)
end Mine
set_option maxRecDepth 100000 in
set_option maxHeartbeats 8000000 in
theorem PySem.Challenge.cw_zu0017_01_holds : PySem.Challenge.rw_zu0017_01.Holds := by
  exact Mine.law_holds
