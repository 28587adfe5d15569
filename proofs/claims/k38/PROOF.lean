import PyProof.Rows.All
import Wide.All
import OpenK.AllK
import Wide.FinOn
import KE.KStateDown
import KE.KDictKeyed
import KE.KDictLaw
import KE.KMinKey
import Lean
import HandS.ForMost
import HandS.More
import HandS.Exc
import HandS.Defaults
import HandS.Lambda
import HandS.EndTab
import HandS.HeadWalk
import HandS.NoneIn
import HandS.WideBits
import HandS.SetFor
import HandS.SortKw
import HandS.CallRecv
import HandS.Nested
import HandS.Walk
import KE.OsArith
import HandS.Remove
import HandS.Head0
import HandS.Head1
import HandS.Head2
import HandS.HeadHook1
import HandS.HeadHook2
import HandS.HeadHook3
import HandS.HeadHook4
import PySem.Challenge.RW_nolitter_k38_whole_none_is_cheaper
set_option Elab.async false
set_option linter.all false
set_option maxRecDepth 100000
set_option maxHeartbeats 0
/-! K38: the mathematics of marks and their least works, in plain Lean. Counts of toggles are vectors; a set of marks is a number below 2 ^ n. -/
namespace K38
/-! ### vectors of counts -/
def dot : List Nat → List Int → Int
  | [], _ => 0
  | _ :: _, [] => 0
  | a :: v, p :: q => (a : Int) * p + dot v q
/-- each place at most -/
def leq : List Nat → List Nat → Bool
  | [], _ => true
  | a :: u, [] => Nat.beq a 0 && leq u []
  | a :: u, b :: v => Nat.ble a b && leq u v
def add : List Nat → List Nat → List Nat
  | [], v => v
  | a :: u, [] => a :: u
  | a :: u, b :: v => (a + b) :: add u v
/-- e noughts ahead -/
def sh : Nat → List Nat → List Nat
  | 0, v => v
  | e + 1, v => 0 :: sh e v
def unit : Nat → List Nat
  | 0 => [1]
  | k + 1 => 0 :: unit k
theorem dot_nil_right (v : List Nat) : dot v [] = 0 := by cases v <;> rfl
def NonNeg (q : List Int) : Prop := ∀ p ∈ q, 0 ≤ p
theorem NonNeg.tail {p : Int} {q : List Int} (h : NonNeg (p :: q)) : NonNeg q := fun x hx => h x (List.mem_cons_of_mem _ hx)
theorem NonNeg.head {p : Int} {q : List Int} (h : NonNeg (p :: q)) : 0 ≤ p := h p List.mem_cons_self
theorem NonNeg.drop {q : List Int} (h : NonNeg q) (e : Nat) : NonNeg (q.drop e) := fun x hx => h x (List.mem_of_mem_drop hx)
theorem dot_nonneg : ∀ (v : List Nat) {q : List Int}, NonNeg q → 0 ≤ dot v q
  | [], _, _ => Int.le_refl 0
  | _ :: _, [], _ => Int.le_refl 0
  | a :: v, p :: q, h => by
    show 0 ≤ (a : Int) * p + dot v q
    have h1 : 0 ≤ (a : Int) * p := Int.mul_nonneg (Int.natCast_nonneg a) h.head
    have h2 := dot_nonneg v h.tail
    omega
theorem leq_dot : ∀ {u v : List Nat} {q : List Int}, leq u v = true → NonNeg q → dot u q ≤ dot v q
  | [], v, q, _, h => by
    show 0 ≤ dot v q
    exact dot_nonneg v h
  | a :: u, [], [], _, _ => Int.le_refl 0
  | a :: u, b :: v, [], _, _ => Int.le_refl 0
  | a :: u, [], p :: q, hl, h => by
    have hl' : (Nat.beq a 0 && leq u []) = true := hl
    obtain ⟨h1, h2⟩ := Bool.and_eq_true_iff.mp hl'
    have e : a = 0 := Nat.eq_of_beq_eq_true h1
    have z := leq_dot (q := q) h2 h.tail
    show (a : Int) * p + dot u q ≤ 0
    have z' : dot u q ≤ 0 := z
    subst e
    simp only [Int.natCast_zero, Int.zero_mul] <;> omega
  | a :: u, b :: v, p :: q, hl, h => by
    have hl' : (Nat.ble a b && leq u v) = true := hl
    obtain ⟨h1, h2⟩ := Bool.and_eq_true_iff.mp hl'
    have e : a ≤ b := Nat.le_of_ble_eq_true h1
    have z := leq_dot (q := q) h2 h.tail
    have z1 : (a : Int) * p ≤ (b : Int) * p := Int.mul_le_mul_of_nonneg_right (Int.ofNat_le.mpr e) h.head
    show (a : Int) * p + dot u q ≤ (b : Int) * p + dot v q
    omega
theorem dot_add : ∀ (u v : List Nat) (q : List Int), dot (add u v) q = dot u q + dot v q
  | [], v, q => by show dot v q = 0 + dot v q; omega
  | a :: u, [], q => by
    show dot (a :: u) q = dot (a :: u) q + dot [] q
    have : dot [] q = 0 := rfl
    omega
  | a :: u, b :: v, [] => rfl
  | a :: u, b :: v, p :: q => by
    have ih := dot_add u v q
    show ((a + b : Nat) : Int) * p + dot (add u v) q = ((a : Int) * p + dot u q) + ((b : Int) * p + dot v q)
    rw [ih, Int.natCast_add, Int.add_mul]
    omega
theorem dot_sh : ∀ (e : Nat) (v : List Nat) (q : List Int), dot (sh e v) q = dot v (q.drop e)
  | 0, v, q => rfl
  | e + 1, v, [] => by
    rw [List.drop_nil, dot_nil_right, dot_nil_right]
  | e + 1, v, p :: q => by
    show ((0 : Nat) : Int) * p + dot (sh e v) q = dot v (q.drop e)
    rw [dot_sh e v q]
    simp
theorem dot_unit : ∀ (k : Nat) (q : List Int), dot (unit k) q = q.getD k 0
  | 0, [] => rfl
  | 0, p :: q => by
    show ((1 : Nat) : Int) * p + dot [] q = p
    have : dot [] q = 0 := rfl
    rw [this]
    simp
  | k + 1, [] => rfl
  | k + 1, p :: q => by
    show ((0 : Nat) : Int) * p + dot (unit k) q = q.getD k 0
    rw [dot_unit k q]
    simp
/-! ### the least of a list of vectors -/
def minDot : List (List Nat) → List Int → Option Int
  | [], _ => none
  | v :: L, q => match minDot L q with
    | none => some (dot v q)
    | some x => some (if dot v q < x then dot v q else x)
def IsMin (o : Option Int) (L : List (List Nat)) (q : List Int) : Prop := match o with
  | none => L = []
  | some x => (∃ v, v ∈ L ∧ dot v q = x) ∧ ∀ v, v ∈ L → x ≤ dot v q
theorem isMin_minDot : ∀ (L : List (List Nat)) (q : List Int), IsMin (minDot L q) L q
  | [], q => rfl
  | v :: L, q => by
    have ih := isMin_minDot L q
    unfold minDot
    cases e : minDot L q with
    | none =>
      rw [e] at ih
      have hL : L = [] := ih
      subst hL
      exact ⟨⟨v, List.mem_cons_self, rfl⟩, fun w hw => by
        rcases List.mem_cons.mp hw with h | h
        · rw [h]; exact Int.le_refl _
        · cases h⟩
    | some x =>
      rw [e] at ih
      obtain ⟨⟨u, hu, eu⟩, hx⟩ := ih
      by_cases h : dot v q < x
      · show IsMin (some (if dot v q < x then dot v q else x)) (v :: L) q
        rw [if_pos h]
        refine ⟨⟨v, List.mem_cons_self, rfl⟩, fun w hw => ?_⟩
        rcases List.mem_cons.mp hw with h1 | h1
        · rw [h1]; exact Int.le_refl _
        · have := hx w h1; omega
      · show IsMin (some (if dot v q < x then dot v q else x)) (v :: L) q
        rw [if_neg h]
        refine ⟨⟨u, List.mem_cons_of_mem _ hu, eu⟩, fun w hw => ?_⟩
        rcases List.mem_cons.mp hw with h1 | h1
        · rw [h1]; omega
        · exact hx w h1
theorem IsMin.uniq {o : Option Int} {L : List (List Nat)} {q : List Int} (h : IsMin o L q) : o = minDot L q := by
  have h2 := isMin_minDot L q
  cases o with
  | none =>
    have hL : L = [] := h
    subst hL
    rfl
  | some x =>
    obtain ⟨⟨v, hv, ev⟩, hx⟩ := h
    cases e : minDot L q with
    | none =>
      rw [e] at h2
      have hL : L = [] := h2
      subst hL
      cases hv
    | some y =>
      rw [e] at h2
      obtain ⟨⟨u, hu, eu⟩, hy⟩ := h2
      have a1 := hx u hu
      have a2 := hy v hv
      have : x = y := by omega
      rw [this]
/-- each of the two lists has, for each vector of the other, one that is at most it -/
def covers (A B : List (List Nat)) : Bool := B.all fun b => A.any fun a => leq a b
def eqv (A B : List (List Nat)) : Bool := covers A B && covers B A
theorem covers_mem {A B : List (List Nat)} (h : covers A B = true) {b : List Nat} (hb : b ∈ B) : ∃ a, a ∈ A ∧ leq a b = true := by
  have h1 := List.all_eq_true.mp h b hb
  obtain ⟨a, ha, e⟩ := List.any_eq_true.mp h1
  exact ⟨a, ha, e⟩
theorem IsMin.eqv {o : Option Int} {A B : List (List Nat)} {q : List Int} (nn : NonNeg q) (h : IsMin o A q) (he : K38.eqv A B = true) : IsMin o B q := by
  obtain ⟨h1, h2⟩ := Bool.and_eq_true_iff.mp he
  cases o with
  | none =>
    have hA : A = [] := h
    subst hA
    show B = []
    cases B with
    | nil => rfl
    | cons b B =>
      obtain ⟨a, ha, _⟩ := covers_mem h1 (b := b) List.mem_cons_self
      cases ha
  | some x =>
    obtain ⟨⟨v, hv, ev⟩, hx⟩ := h
    have low : ∀ w, w ∈ B → x ≤ dot w q := fun w hw => by
      obtain ⟨a, ha, e⟩ := covers_mem h1 hw
      have := hx a ha
      have := leq_dot e nn
      omega
    obtain ⟨b, hb, e⟩ := covers_mem h2 hv
    have g1 := leq_dot e nn
    have g2 := low b hb
    exact ⟨⟨b, hb, by omega⟩, low⟩
/-! ### sums and unions -/
def add2 (o p : Option Int) : Option Int := match o, p with
  | some x, some y => some (x + y)
  | _, _ => none
def prods (A B : List (List Nat)) : List (List Nat) := A.flatMap fun a => B.map fun b => add a b
theorem mem_prods {A B : List (List Nat)} {c : List Nat} : c ∈ prods A B ↔ ∃ a, a ∈ A ∧ ∃ b, b ∈ B ∧ c = add a b := by
  unfold prods
  rw [List.mem_flatMap]
  constructor
  · rintro ⟨a, ha, hc⟩
    obtain ⟨b, hb, e⟩ := List.mem_map.mp hc
    exact ⟨a, ha, b, hb, e.symm⟩
  · rintro ⟨a, ha, b, hb, e⟩
    exact ⟨a, ha, List.mem_map.mpr ⟨b, hb, e.symm⟩⟩
theorem prods_nil_right : ∀ A : List (List Nat), prods A [] = []
  | [] => rfl
  | a :: A => by
    show ([] : List (List Nat)).map _ ++ prods A [] = []
    rw [prods_nil_right A] <;> rfl
theorem IsMin.prods {o p : Option Int} {A B : List (List Nat)} {q : List Int} (h : IsMin o A q) (h' : IsMin p B q) : IsMin (add2 o p) (prods A B) q := by
  cases o with
  | none =>
    have hA : A = [] := h
    subst hA
    cases p <;> exact rfl
  | some x =>
    cases p with
    | none =>
      have hB : B = [] := h'
      subst hB
      exact prods_nil_right A
    | some y =>
      obtain ⟨⟨u, hu, eu⟩, hx⟩ := h
      obtain ⟨⟨v, hv, ev⟩, hy⟩ := h'
      refine ⟨⟨add u v, mem_prods.mpr ⟨u, hu, v, hv, rfl⟩, by rw [dot_add]; omega⟩, fun w hw => ?_⟩
      obtain ⟨a, ha, b, hb, e⟩ := mem_prods.mp hw
      have := hx a ha
      have := hy b hb
      rw [e, dot_add]
      omega
theorem IsMin.shift {o : Option Int} {A : List (List Nat)} {q : List Int} {e : Nat} (h : IsMin o A (q.drop e)) : IsMin o (A.map (sh e)) q := by
  cases o with
  | none =>
    have hA : A = [] := h
    subst hA
    rfl
  | some x =>
    obtain ⟨⟨u, hu, eu⟩, hx⟩ := h
    refine ⟨⟨sh e u, List.mem_map.mpr ⟨u, hu, rfl⟩, by rw [dot_sh]; exact eu⟩, fun w hw => ?_⟩
    obtain ⟨a, ha, e2⟩ := List.mem_map.mp hw
    rw [← e2, dot_sh]
    exact hx a ha
/-- the least of several: none only where all are none; else one of them, none less -/
def Least (o : Option Int) (w : Nat → Option Int) (ms : List Nat) : Prop := match o with
  | none => ∀ m, m ∈ ms → w m = none
  | some x => (∃ m, m ∈ ms ∧ w m = some x) ∧ ∀ m y, m ∈ ms → w m = some y → x ≤ y
theorem IsMin.union {o : Option Int} {w : Nat → Option Int} {ms : List Nat} {L : Nat → List (List Nat)} {q : List Int} (hw : ∀ m, m ∈ ms → IsMin (w m) (L m) q) (h : IsMin o (ms.flatMap L) q) : Least o w ms := by
  cases o with
  | none =>
    intro m hm
    have he : ms.flatMap L = [] := h
    have hL : L m = [] := by
      cases e : L m with
      | nil => rfl
      | cons v r =>
        have : v ∈ ms.flatMap L := List.mem_flatMap.mpr ⟨m, hm, by rw [e]; exact List.mem_cons_self⟩
        rw [he] at this
        cases this
    have := (hw m hm).uniq
    rw [hL] at this
    exact this
  | some x =>
    obtain ⟨⟨v, hv, ev⟩, hx⟩ := h
    have low : ∀ m y, m ∈ ms → w m = some y → x ≤ y := fun m y hm e => by
      have h1 := hw m hm
      rw [e] at h1
      obtain ⟨⟨u, hu, eu⟩, _⟩ := h1
      have := hx u (List.mem_flatMap.mpr ⟨m, hm, hu⟩)
      omega
    obtain ⟨m, hm, hv2⟩ := List.mem_flatMap.mp hv
    refine ⟨⟨m, hm, ?_⟩, low⟩
    have h1 := hw m hm
    cases e : w m with
    | none =>
      rw [e] at h1
      have hL : L m = [] := h1
      rw [hL] at hv2
      cases hv2
    | some y =>
      rw [e] at h1
      have := h1.2 v hv2
      have := low m y hm e
      have : y = x := by omega
      rw [this]
/-! ### the tables -/
def fr0 : List (List Nat) := [[0], [], [], [], [], [], [], [], [], [], [], [], [], [], [], [], [], [], [], [], [], [], [], [], [], [], [], [], [], [], [], [], [], [], [], [], [], [], [], [], [], [], [], [], [], [], [], [], [], [], [], [], [], [], [], [], [], [], [], [], [], [], [], [], [], [], [], [], [], [], [], [], [], [], [], [], [], [], [], [], [], [], [], [], [], [], [], [], [], [], [], [], [], [], [], [], [], [], [], [], [], [], [], [], [], [], [], [], [], [], [], [], [], [], [], [], [], [], [], [], [], [], [], [], [], [], [], []]
def fr1 : List (List Nat) := [[0], [1], [], [], [], [], [], [], [], [], [], [], [], [], [], [], [], [], [], [], [], [], [], [], [], [], [], [], [], [], [], [], [], [], [], [], [], [], [], [], [], [], [], [], [], [], [], [], [], [], [], [], [], [], [], [], [], [], [], [], [], [], [], [], [], [], [], [], [], [], [], [], [], [], [], [], [], [], [], [], [], [], [], [], [], [], [], [], [], [], [], [], [], [], [], [], [], [], [], [], [], [], [], [], [], [], [], [], [], [], [], [], [], [], [], [], [], [], [], [], [], [], [], [], [], [], [], []]
def fr2 : List (List Nat) := [[0], [1], [66], [65], [], [], [4162], [], [], [], [], [], [], [], [], [], [], [], [], [], [], [], [], [], [], [], [], [], [], [], [], [], [], [], [], [], [], [], [], [], [], [], [], [], [], [], [], [], [], [], [], [], [], [], [], [], [], [], [], [], [], [], [], [], [], [], [], [], [], [], [], [], [], [], [], [], [], [], [], [], [], [], [], [], [], [], [], [], [], [], [], [], [], [], [], [], [], [], [], [], [], [], [], [], [], [], [], [], [], [], [], [], [], [], [], [], [], [], [], [], [], [], [], [], [], [], [], []]
def fr3 : List (List Nat) := [[0], [1], [66], [65], [4226], [4225], [4162], [4161], [270468], [270467], [270402], [270403], [266370], [266369], [266306], [], [], [], [], [], [17305730], [17305731], [], [], [17047684], [17047683], [17047618], [], [17043586], [], [], [], [], [], [], [], [], [], [], [], [1107566724], [1107566725], [], [], [], [], [], [], [], [], [], [], [1091047554], [], [], [], [1090789508], [], [], [], [], [], [], [], [], [], [], [], [], [], [], [], [], [], [], [], [], [], [], [], [], [], [], [], [], [], [], [], [], [], [], [], [], [], [], [], [], [], [], [], [], [], [], [], [69827043460], [], [], [], [], [], [], [], [], [], [], [], [], [], [], [], [], [], [], [], [], [], [], []]
def fr4 : List (List Nat) := [[0], [1], [66], [65], [4226], [4225], [4162], [4161], [270466], [270465], [270402], [270401], [266370], [266369], [266306], [266305], [17309828, 17309954], [17309827, 17309953], [17309762], [17309763, 17309889], [17305730], [17305729], [17305666], [17305667, 17305793], [17047682], [17047681], [17047618], [17047617], [17043586], [17043585], [17043522], [], [1107837060, 1107828996], [1107837059, 1107828995], [1107836994, 1107828932], [1107836995, 1107828931], [1107824770], [1107824771], [1107832898, 1107824836], [1107832899, 1107824835], [1107566722], [1107566721], [1107566658], [1107566659, 1107566785], [1107562626], [1107562627], [1107570754, 1108086980], [], [1091051652, 1091051778], [1091051651, 1091051777], [1091051586], [1091051587, 1091051713], [1091047554], [1091047553], [1091047490], [], [1090789506], [1090789505], [1090789442], [], [1090785410], [], [], [], [70901571844, 70901055750], [70901571843, 70901055749], [70901571780, 70901055684], [70901571779, 70901055685], [70901567618, 70901051654], [70901567619, 70901051653], [70901567684, 70901051588], [70901567683, 70901051589], [70900785282], [70900785283], [70900785348], [70900785347], [70901305474], [70901305475], [70900789444, 70901829828], [], [70884270212, 70884270338], [70884270211, 70884270337], [70884270146], [70884270147, 70884270401], [70884266114], [70884266115], [70884274242], [], [70884008066], [70884008067], [70917562564], [], [70884528258], [], [], [], [69827313796, 69827305732], [69827313795, 69827305731], [69827313730, 69827305668], [69827313731, 69827305667], [69827301506], [69827301507], [69827309634, 69827301572], [], [69827043458], [69827043457], [69827043394], [], [69827039362], [], [], [], [69810528388, 69810528514], [69810528387, 69810528513], [69810528322], [], [69810524290], [], [], [], [69810266242], [], [], [], [], [], [], []]
def fr5 : List (List Nat) := [[0], [1], [66], [65], [4226], [4225], [4162], [4161], [270466], [270465], [270402], [270401], [266370], [266369], [266306], [266305], [17309826], [17309825], [17309762], [17309761], [17305730], [17305729], [17305666], [17305665], [17047682], [17047681], [17047618], [17047617], [17043586], [17043585], [17043522], [17043521], [1107828868, 1107828994, 1107837058], [1107828867, 1107828993, 1107837057], [1107828802], [1107828803, 1107828929, 1107836993], [1107824770], [1107824769], [1107824706], [1107824707, 1107824833, 1107832897], [1107566722], [1107566721], [1107566658], [1107566657], [1107562626], [1107562625], [1107562562], [1107562563, 1107562689, 1107570753], [1091051650], [1091051649], [1091051586], [1091051585], [1091047554], [1091047553], [1091047490], [1091047489], [1090789506], [1090789505], [1090789442], [1090789441], [1090785410], [1090785409], [1090785346], [], [70901055620, 70901571716, 70901047556, 70901571842, 70901055746], [70901055619, 70901571715, 70901047555, 70901571841, 70901055745], [70901055554, 70901571650, 70901047492], [70901055555, 70901571651, 70901047491, 70901571777, 70901055681], [70901043330], [70901043331, 70901567617, 70901051649], [70901051458, 70901567554, 70901043396], [70901051459, 70901567555, 70901043395, 70901567681, 70901051585], [70900785282], [70900785281], [70900785218], [70900785219, 70900785345], [70900781186], [70900781187, 70901305473, 70900789505], [70900789314, 70901305410, 70900781252], [70900789315, 70901305411, 70900781251, 70901305537, 70900789441], [70884270210], [70884270209], [70884270146], [70884270145], [70884266114], [70884266113], [70884266050], [70884266051, 70884266177, 70884274241], [70884008066], [70884008065], [70884008002], [70884008003, 70884008129], [70884003970], [70884003971, 70884528257, 70917566721], [70884012098, 70884528194, 70917558468], [], [69827305604, 69827305730, 69827313794], [69827305603, 69827305729, 69827313793], [69827305538], [69827305539, 69827305665, 69827313729], [69827301506], [69827301505], [69827301442], [69827301443, 69827301569, 69827309633], [69827043458], [69827043457], [69827043394], [69827043393], [69827039362], [69827039361], [69827039298], [], [69810528386], [69810528385], [69810528322], [69810528321], [69810524290], [69810524289], [69810524226], [], [69810266242], [69810266241], [69810266178], [], [69810262146], [], [], []]
def fr6 : List (List Nat) := [[0], [1], [66], [65], [4226], [4225], [4162], [4161], [270466], [270465], [270402], [270401], [266370], [266369], [266306], [266305], [17309826], [17309825], [17309762], [17309761], [17305730], [17305729], [17305666], [17305665], [17047682], [17047681], [17047618], [17047617], [17043586], [17043585], [17043522], [17043521], [1107828866], [1107828865], [1107828802], [1107828801], [1107824770], [1107824769], [1107824706], [1107824705], [1107566722], [1107566721], [1107566658], [1107566657], [1107562626], [1107562625], [1107562562], [1107562561], [1091051650], [1091051649], [1091051586], [1091051585], [1091047554], [1091047553], [1091047490], [1091047489], [1090789506], [1090789505], [1090789442], [1090789441], [1090785410], [1090785409], [1090785346], [1090785345], [70901047428, 70901047554, 70901055618, 70901571714], [70901047427, 70901047553, 70901055617, 70901571713], [70901047362], [70901047363, 70901047489, 70901055553, 70901571649], [70901043330], [70901043329], [70901043266], [70901043267, 70901043393, 70901051457, 70901567553], [70900785282], [70900785281], [70900785218], [70900785217], [70900781186], [70900781185], [70900781122], [70900781123, 70900781249, 70900789313, 70901305409], [70884270210], [70884270209], [70884270146], [70884270145], [70884266114], [70884266113], [70884266050], [70884266049], [70884008066], [70884008065], [70884008002], [70884008001], [70884003970], [70884003969], [70884003906], [70884003907, 70884004033, 70884012097, 70884528193], [69827305602], [69827305601], [69827305538], [69827305537], [69827301506], [69827301505], [69827301442], [69827301441], [69827043458], [69827043457], [69827043394], [69827043393], [69827039362], [69827039361], [69827039298], [69827039297], [69810528386], [69810528385], [69810528322], [69810528321], [69810524290], [69810524289], [69810524226], [69810524225], [69810266242], [69810266241], [69810266178], [69810266177], [69810262146], [69810262145], [69810262082], []]
def fr7 : List (List Nat) := [[0], [1], [66], [65], [4226], [4225], [4162], [4161], [270466], [270465], [270402], [270401], [266370], [266369], [266306], [266305], [17309826], [17309825], [17309762], [17309761], [17305730], [17305729], [17305666], [17305665], [17047682], [17047681], [17047618], [17047617], [17043586], [17043585], [17043522], [17043521], [1107828866], [1107828865], [1107828802], [1107828801], [1107824770], [1107824769], [1107824706], [1107824705], [1107566722], [1107566721], [1107566658], [1107566657], [1107562626], [1107562625], [1107562562], [1107562561], [1091051650], [1091051649], [1091051586], [1091051585], [1091047554], [1091047553], [1091047490], [1091047489], [1090789506], [1090789505], [1090789442], [1090789441], [1090785410], [1090785409], [1090785346], [1090785345], [70901047426], [70901047425], [70901047362], [70901047361], [70901043330], [70901043329], [70901043266], [70901043265], [70900785282], [70900785281], [70900785218], [70900785217], [70900781186], [70900781185], [70900781122], [70900781121], [70884270210], [70884270209], [70884270146], [70884270145], [70884266114], [70884266113], [70884266050], [70884266049], [70884008066], [70884008065], [70884008002], [70884008001], [70884003970], [70884003969], [70884003906], [70884003905], [69827305602], [69827305601], [69827305538], [69827305537], [69827301506], [69827301505], [69827301442], [69827301441], [69827043458], [69827043457], [69827043394], [69827043393], [69827039362], [69827039361], [69827039298], [69827039297], [69810528386], [69810528385], [69810528322], [69810528321], [69810524290], [69810524289], [69810524226], [69810524225], [69810266242], [69810266241], [69810266178], [69810266177], [69810262146], [69810262145], [69810262082], [69810262081]]
def frs : List (List (List Nat)) := [fr0, fr1, fr2, fr3, fr4, fr5, fr6, fr7]
def rvs : List (List (List Nat)) := [[[], [], [], [], [], [], [], []],
  [[], [1], [], [], [], [], [], []],
  [[], [1], [65], [4162], [], [], [], []],
  [[], [1], [65], [4161], [266369, 266306], [17047618, 17043586], [1091047554, 1090789508], [69827043460]],
  [[], [1], [65], [4161], [266305], [17047617, 17043585, 17043522], [1091047553, 1091047490, 1090789505, 1090789442, 1090785410], [69827043457, 69827043394, 69827039362, 69810528513, 69810528322, 69810524290, 69810266242]],
  [[], [1], [65], [4161], [266305], [17043521], [1091047489, 1090789441, 1090785409, 1090785346], [69827043393, 69827039361, 69827039298, 69810528321, 69810524289, 69810524226, 69810266241, 69810266178, 69810262146]],
  [[], [1], [65], [4161], [266305], [17043521], [1090785345], [69827039297, 69810524225, 69810266177, 69810262145, 69810262082]],
  [[], [1], [65], [4161], [266305], [17043521], [1090785345], [69810262081]]]
def digits : Nat → Nat → List Nat
  | 0, _ => []
  | k + 1, x => x % 64 :: digits k (x / 64)
/-- the least vectors of the ways to the set S with s spare places -/
def F (s S : Nat) : List (List Nat) := ((frs.getD s []).getD S []).map (digits 7)
/-- .. to the last mark alone; to any set with it -/
def TV (s d : Nat) (al : Bool) : List (List Nat) := match d with
  | 0 => []
  | d + 1 => if al then F s (1 <<< d) else ((rvs.getD s []).getD (d + 1) []).map (digits 7)
def farthest (s : Nat) (al : Bool) : Nat := if al then (2 ^ s - 1) - (2 ^ s - 1) / 2 else 2 ^ s - 1
/-- the cuts ahead of the e-th -/
def cutV (s d : Nat) (al : Bool) (e : Nat) : List (List Nat) :=
  prods (prods (TV s e true) ((TV (s - 1) (d - e) al).map (sh e))) (if al then TV (s - 1) e true else [[]])
def inside (d : Nat) : List Nat := (List.range (d - 1)).map (· + 1)
def chkTab : Bool := (List.range 8).all fun s => (List.range 8).all fun d => [true, false].all fun al =>
  if d = 0 then true
  else if d = 1 then (if s = 0 then (TV s d al).isEmpty else eqv [unit 0] (TV s d al))
  else if farthest s al < d then (TV s d al).isEmpty
  else eqv (TV s d al) ((inside d).flatMap (cutV s d al))
theorem chkTab_ok : chkTab = true := by decide +kernel
/-! ### the table's least works -/
/-- the least work over d stretches whose costs are the first of q -/
def T (s d : Nat) (al : Bool) (q : List Int) : Option Int := minDot (TV s d al) q
def byc (s d : Nat) (al : Bool) (q : List Int) (e : Nat) : Option Int :=
  add2 (add2 (T s e true q) (T (s - 1) (d - e) al (q.drop e))) (if al then T (s - 1) e true q else some 0)
theorem chk_at {s d : Nat} {al : Bool} (hs : s < 8) (hd : d < 8) :
    (if d = 0 then true else if d = 1 then (if s = 0 then (TV s d al).isEmpty else eqv [unit 0] (TV s d al)) else if farthest s al < d then (TV s d al).isEmpty else eqv (TV s d al) ((inside d).flatMap (cutV s d al))) = true := by
  have h1 := List.all_eq_true.mp chkTab_ok s (List.mem_range.mpr hs)
  have h2 := List.all_eq_true.mp h1 d (List.mem_range.mpr hd)
  exact List.all_eq_true.mp h2 al (by cases al <;> simp)
theorem T_one {s : Nat} {al : Bool} {p : Int} {q : List Int} (hs : s < 8) (h0 : 0 < s) (nn : NonNeg (p :: q)) : T s 1 al (p :: q) = some p := by
  have h := chk_at (d := 1) (al := al) hs (by decide)
  rw [if_neg (by decide), if_pos rfl, if_neg (by omega)] at h
  have h1 : IsMin (some p) [unit 0] (p :: q) := by
    refine ⟨⟨unit 0, List.mem_cons_self, ?_⟩, fun v hv => ?_⟩
    · rw [dot_unit] <;> rfl
    · rw [List.mem_singleton.mp hv, dot_unit]
      exact Int.le_refl _
  exact (h1.eqv nn h).uniq.symm
theorem T_far {s d : Nat} {al : Bool} {q : List Int} (hs : s < 8) (hd : d < 8) (h0 : 0 < d) (h : farthest s al < d) : T s d al q = none := by
  have h1 := chk_at (al := al) hs hd
  rw [if_neg (by omega)] at h1
  have e : TV s d al = [] := by
    by_cases hd1 : d = 1
    · rw [if_pos hd1] at h1
      have hs0 : s = 0 := by
        subst hd1
        cases s with
        | zero => rfl
        | succ s =>
          exfalso
          have hp : 2 ^ (s + 1) = 2 * 2 ^ s := by rw [Nat.pow_succ]; omega
          have hp1 : 1 ≤ 2 ^ s := Nat.one_le_two_pow
          unfold farthest at h
          cases al <;> simp at h <;> omega
      rw [if_pos hs0] at h1
      exact List.isEmpty_iff.mp h1
    · rw [if_neg hd1, if_pos h] at h1
      exact List.isEmpty_iff.mp h1
  unfold T
  rw [e] <;> rfl
theorem T_zero {d : Nat} {al : Bool} {q : List Int} (hd : d < 8) (h0 : 0 < d) : T 0 d al q = none := by
  refine T_far (by decide) hd h0 ?_
  cases al <;> simp [farthest] <;> omega
theorem isMin_byc {s d : Nat} {al : Bool} {q : List Int} {e : Nat} : IsMin (byc s d al q e) (cutV s d al e) q := by
  unfold byc cutV
  refine IsMin.prods (IsMin.prods (isMin_minDot _ _) (IsMin.shift (isMin_minDot _ _))) ?_
  cases al with
  | true => exact isMin_minDot _ _
  | false => exact ⟨⟨[], List.mem_cons_self, rfl⟩, fun v hv => by rw [List.mem_singleton.mp hv]; exact Int.le_refl 0⟩
theorem mem_inside {d e : Nat} : e ∈ inside d ↔ 0 < e ∧ e < d := by
  unfold inside
  rw [List.mem_map]
  constructor
  · rintro ⟨a, ha, rfl⟩
    have := List.mem_range.mp ha
    omega
  · rintro ⟨h1, h2⟩
    exact ⟨e - 1, List.mem_range.mpr (by omega), by omega⟩
theorem T_cut {s d : Nat} {al : Bool} {q : List Int} (hs : s < 8) (hd : d < 8) (h2 : 2 ≤ d) (h : ¬ farthest s al < d) (nn : NonNeg q) : Least (T s d al q) (byc s d al q) (inside d) := by
  have h1 := chk_at (al := al) hs hd
  rw [if_neg (by omega), if_neg (by omega), if_neg h] at h1
  refine IsMin.union (L := cutV s d al) (q := q) (fun m _ => isMin_byc) ?_
  exact (isMin_minDot (TV s d al) q).eqv nn h1
end K38
/-! K38: all sets of marks, walked from the nearest: what is found is the least. -/
namespace K38
/-! ### sets of marks -/
def bit (S k : Nat) : Nat := S >>> k &&& 1
def cnt (S : Nat) : Nat := ((List.range 8).map (bit S)).sum
def flip (S k : Nat) : Nat := S ^^^ 1 <<< k
def legal (S k : Nat) : Bool := Nat.beq k 0 || Nat.beq (bit S (k - 1)) 1
/-- its moves: the set behind, the mark -/
def next (n s S : Nat) : List (Nat × Nat) := (List.range n).filterMap fun k => if legal S k && Nat.ble (cnt (flip S k)) s then some (flip S k, k) else none
theorem mem_next {n s S : Nat} {p : Nat × Nat} : p ∈ next n s S ↔ p.1 = flip S p.2 ∧ p.2 < n ∧ legal S p.2 = true ∧ cnt (flip S p.2) ≤ s := by
  unfold next
  rw [List.mem_filterMap]
  constructor
  · rintro ⟨k, hk, e⟩
    split at e
    · rename_i h
      obtain ⟨h1, h2⟩ := Bool.and_eq_true_iff.mp h
      have e2 := Option.some.inj e
      subst e2
      exact ⟨rfl, List.mem_range.mp hk, h1, Nat.le_of_ble_eq_true h2⟩
    · cases e
  · rintro ⟨h1, h2, h3, h4⟩
    refine ⟨p.2, List.mem_range.mpr h2, ?_⟩
    rw [if_pos (Bool.and_eq_true_iff.mpr ⟨h3, Nat.ble_eq_true_of_le h4⟩), ← h1]
theorem flip_flip (S k : Nat) : flip (flip S k) k = S := by
  unfold flip
  rw [Nat.xor_assoc, Nat.xor_self, Nat.xor_zero]
theorem flip_ne (S k : Nat) : flip S k ≠ S := by
  intro h
  have h2 : S ^^^ (S ^^^ 1 <<< k) = S ^^^ S := congrArg (S ^^^ ·) h
  rw [← Nat.xor_assoc, Nat.xor_self, Nat.zero_xor, Nat.shiftLeft_eq] at h2
  have : 0 < 2 ^ k := Nat.two_pow_pos k
  omega
theorem flip_lt {S k n : Nat} (hS : S < 2 ^ n) (hk : k < n) : flip S k < 2 ^ n := by
  unfold flip
  refine Nat.xor_lt_two_pow hS ?_
  rw [Nat.shiftLeft_eq, Nat.one_mul]
  exact Nat.pow_lt_pow_right (by decide) hk
def legalB : Bool := (List.range 128).all fun S => (List.range 7).all fun k => decide (legal (flip S k) k = legal S k)
theorem legalB_ok : legalB = true := by decide +kernel
theorem legal_flip {S k : Nat} (hS : S < 128) (hk : k < 7) : legal (flip S k) k = legal S k :=
  of_decide_eq_true (List.all_eq_true.mp (List.all_eq_true.mp legalB_ok S (List.mem_range.mpr hS)) k (List.mem_range.mpr hk))
/-! ### the tables and the moves -/
def zeros : List Nat := [0, 0, 0, 0, 0, 0, 0]
def chkEdge : Bool := (List.range 8).all fun s => (List.range 128).all fun S => (F s S).all fun v => (List.range 7).all fun k =>
  if legal S k && Nat.ble (cnt (flip S k)) s then (F s (flip S k)).any fun u => leq u (add v (unit k)) else true
def chkBack : Bool := (List.range 8).all fun s => (List.range 128).all fun S => (F s S).all fun v =>
  (Nat.beq S 0 && decide (v = zeros)) || (List.range 7).any fun k => legal S k && (Nat.ble (cnt S) s && (F s (flip S k)).any fun u => decide (add u (unit k) = v))
def chkZero : Bool := (List.range 8).all fun s => (List.range 128).all fun S => (F s S).all fun v => (List.range 7).all fun k => if Nat.ble (2 ^ k) S then true else Nat.beq (v.getD k 0) 0
def chkNull : Bool := (List.range 8).all fun s => (F s 0).any fun v => decide (v = zeros)
def chkRv : Bool := (List.range 8).all fun s => (List.range 7).all fun d => eqv (TV s (d + 1) false) (((List.range (2 ^ d)).map (· + 2 ^ d)).flatMap (F s))
theorem chkEdge_ok : chkEdge = true := by decide +kernel
theorem chkBack_ok : chkBack = true := by decide +kernel
theorem chkZero_ok : chkZero = true := by decide +kernel
theorem chkNull_ok : chkNull = true := by decide +kernel
theorem chkRv_ok : chkRv = true := by decide +kernel
theorem dot_zeros : ∀ q : List Int, dot zeros q = 0 := by
  have h : ∀ (k : Nat) (q : List Int), dot (List.replicate k 0) q = 0 := by
    intro k
    induction k with
    | zero => intro q; rfl
    | succ k ih =>
      intro q
      cases q with
      | nil => rfl
      | cons p q =>
        show ((0 : Nat) : Int) * p + dot (List.replicate k 0) q = 0
        rw [ih q]
        simp
  exact h 7
section
variable {s S : Nat} {v : List Nat} (hs : s < 8) (hS : S < 128) (hv : v ∈ F s S)
include hs hS hv
theorem edge {k : Nat} (hk : k < 7) (hl : legal S k = true) (hc : cnt (flip S k) ≤ s) : ∃ u, u ∈ F s (flip S k) ∧ leq u (add v (unit k)) = true := by
  have h1 := List.all_eq_true.mp (List.all_eq_true.mp (List.all_eq_true.mp (List.all_eq_true.mp chkEdge_ok s (List.mem_range.mpr hs)) S (List.mem_range.mpr hS)) v hv) k (List.mem_range.mpr hk)
  rw [if_pos (Bool.and_eq_true_iff.mpr ⟨hl, Nat.ble_eq_true_of_le hc⟩)] at h1
  obtain ⟨u, hu, e⟩ := List.any_eq_true.mp h1
  exact ⟨u, hu, e⟩
theorem back : (S = 0 ∧ v = zeros) ∨ ∃ k, k < 7 ∧ legal S k = true ∧ cnt S ≤ s ∧ ∃ u, u ∈ F s (flip S k) ∧ add u (unit k) = v := by
  have h1 := List.all_eq_true.mp (List.all_eq_true.mp (List.all_eq_true.mp chkBack_ok s (List.mem_range.mpr hs)) S (List.mem_range.mpr hS)) v hv
  rcases Bool.or_eq_true_iff.mp h1 with h2 | h2
  · obtain ⟨h3, h4⟩ := Bool.and_eq_true_iff.mp h2
    exact .inl ⟨Nat.eq_of_beq_eq_true h3, of_decide_eq_true h4⟩
  · obtain ⟨k, hk, h3⟩ := List.any_eq_true.mp h2
    obtain ⟨h4, h5⟩ := Bool.and_eq_true_iff.mp h3
    obtain ⟨h6, h7⟩ := Bool.and_eq_true_iff.mp h5
    obtain ⟨u, hu, e⟩ := List.any_eq_true.mp h7
    exact .inr ⟨k, List.mem_range.mp hk, h4, Nat.le_of_ble_eq_true h6, u, hu, of_decide_eq_true e⟩
theorem zeroAt {k : Nat} (hk : k < 7) (h : S < 2 ^ k) : v.getD k 0 = 0 := by
  have h1 := List.all_eq_true.mp (List.all_eq_true.mp (List.all_eq_true.mp (List.all_eq_true.mp chkZero_ok s (List.mem_range.mpr hs)) S (List.mem_range.mpr hS)) v hv) k (List.mem_range.mpr hk)
  have h2 : Nat.ble (2 ^ k) S = false := by
    cases e : Nat.ble (2 ^ k) S with
    | false => rfl
    | true => exact absurd (Nat.le_of_ble_eq_true e) (by omega)
  rw [h2, if_neg Bool.false_ne_true] at h1
  exact Nat.eq_of_beq_eq_true h1
end
theorem null_mem {s : Nat} (hs : s < 8) : zeros ∈ F s 0 := by
  have h1 := List.all_eq_true.mp chkNull_ok s (List.mem_range.mpr hs)
  obtain ⟨v, hv, e⟩ := List.any_eq_true.mp h1
  have e2 : v = zeros := of_decide_eq_true e
  rw [← e2]
  exact hv
theorem add_unit_get : ∀ (u : List Nat) (k : Nat), 1 ≤ (add u (unit k)).getD k 0
  | [], 0 => by decide
  | [], k + 1 => add_unit_get [] k
  | a :: u, 0 => by
    show 1 ≤ a + 1
    omega
  | a :: u, k + 1 => add_unit_get u k
theorem sum_add_unit : ∀ (u : List Nat) (k : Nat), (add u (unit k)).sum = u.sum + 1
  | [], 0 => rfl
  | [], k + 1 => by
    show (0 :: unit k).sum = 0 + 1
    have := sum_add_unit [] k
    rw [List.sum_cons]
    exact (Nat.zero_add _).trans this
  | a :: u, 0 => by
    show ((a + 1) :: add u []).sum = (a :: u).sum + 1
    have e : add u [] = u := by cases u <;> rfl
    rw [e, List.sum_cons, List.sum_cons]
    omega
  | a :: u, k + 1 => by
    show ((a + 0) :: add u (unit k)).sum = (a :: u).sum + 1
    rw [List.sum_cons, List.sum_cons, sum_add_unit u k]
    omega
/-! ### a dict of works -/
def look : List (Nat × Int) → Nat → Option Int
  | [], _ => none
  | p :: r, S => if p.1 = S then some p.2 else look r S
def put : List (Nat × Int) → Nat → Int → List (Nat × Int)
  | [], S, x => [(S, x)]
  | p :: r, S, x => if p.1 = S then (S, x) :: r else p :: put r S x
theorem look_put (S T : Nat) (x : Int) : ∀ fl : List (Nat × Int), look (put fl S x) T = if S = T then some x else look fl T
  | [] => rfl
  | p :: r => by
    have ih := look_put S T x r
    unfold put
    by_cases h : p.1 = S
    · rw [if_pos h]
      unfold look
      by_cases h2 : S = T
      · rw [if_pos h2, if_pos h2]
      · rw [if_neg h2, if_neg h2, if_neg (by rw [h]; exact h2)]
    · rw [if_neg h]
      unfold look
      by_cases h3 : p.1 = T
      · rw [if_pos h3, if_pos h3, if_neg (by intro e; exact h (h3.trans e.symm))]
      · rw [if_neg h3, if_neg h3, ih]
theorem keys_put (S : Nat) (x : Int) : ∀ fl : List (Nat × Int), (put fl S x).map (·.1) = if look fl S = none then fl.map (·.1) ++ [S] else fl.map (·.1)
  | [] => rfl
  | p :: r => by
    have ih := keys_put S x r
    unfold put look
    by_cases h : p.1 = S
    · rw [if_pos h, if_pos h, if_neg (by simp)]
      simp [h]
    · rw [if_neg h, if_neg h, List.map_cons, ih]
      split
      · rfl
      · rfl
theorem look_none_iff {S : Nat} : ∀ {fl : List (Nat × Int)}, look fl S = none ↔ S ∉ fl.map (·.1)
  | [] => by simp [look]
  | p :: r => by
    have ih := look_none_iff (S := S) (fl := r)
    unfold look
    by_cases h : p.1 = S
    · rw [if_pos h]
      simp [h]
    · rw [if_neg h, ih, List.map_cons, List.mem_cons]
      constructor
      · rintro h1 (h2 | h2)
        · exact h h2.symm
        · exact h1 h2
      · intro h1 h2
        exact h1 (.inr h2)
theorem look_some_mem {S : Nat} {x : Int} : ∀ {fl : List (Nat × Int)}, look fl S = some x → (S, x) ∈ fl
  | [], h => by cases h
  | p :: r, h => by
    unfold look at h
    split at h
    · rename_i e
      have e2 := Option.some.inj h
      rw [← e, ← e2]
      exact List.mem_cons_self
    · exact List.mem_cons_of_mem _ (look_some_mem h)
theorem look_of_mem {S : Nat} {x : Int} : ∀ {fl : List (Nat × Int)}, (fl.map (·.1)).Nodup → (S, x) ∈ fl → look fl S = some x
  | [], _, h => by cases h
  | p :: r, hn, h => by
    have hn : (p.1 :: r.map (·.1)).Nodup := hn
    obtain ⟨h1, h2⟩ := List.nodup_cons.mp hn
    unfold look
    rcases List.mem_cons.mp h with e | e
    · rw [← e, if_pos rfl]
    · rw [if_neg (fun z => h1 (List.mem_map.mpr ⟨_, e, z.symm⟩))]
      exact look_of_mem h2 e
theorem nodup_le : ∀ (N : Nat) (l : List Nat), l.Nodup → (∀ x, x ∈ l → x < N) → l.length ≤ N
  | 0, l, _, h => by
    cases l with
    | nil => exact Nat.le_refl 0
    | cons a r => exact absurd (h a List.mem_cons_self) (by omega)
  | N + 1, l, hn, h => by
    have h1 := nodup_le N (l.erase N) (hn.erase N) (fun x hx => by
      have hx2 := (List.Nodup.mem_erase_iff hn).mp hx
      have := h x hx2.2
      omega)
    rw [List.length_erase] at h1
    split at h1
    · omega
    · omega
/-! ### the walk from the nearest -/
def Closed (n s : Nat) (pr : List Int) (fl : List (Nat × Int)) (S : Nat) (x : Int) : Prop := ∀ k, k < n → legal S k = true → cnt (flip S k) ≤ s → ∃ y, look fl (flip S k) = some y ∧ y ≤ x + pr.getD k 0
structure Base (n s : Nat) (pr : List Int) (fl : List (Nat × Int)) : Prop where
  nd : (fl.map (·.1)).Nodup
  zero : look fl 0 = some 0
  lo : ∀ S x, look fl S = some x → S < 2 ^ n ∧ 0 ≤ x ∧ ∃ v, v ∈ F s S ∧ dot v pr ≤ x
structure Outer (n s : Nat) (pr : List Int) (fl : List (Nat × Int)) (left : List Nat) : Prop where
  base : Base n s pr fl
  lnd : left.Nodup
  lin : ∀ S, S ∈ left → ∃ x, look fl S = some x
  done : ∀ S x, look fl S = some x → S ∉ left → (∀ T y, T ∈ left → look fl T = some y → x ≤ y) ∧ Closed n s pr fl S x
structure Inner (n s : Nat) (pr : List Int) (fl : List (Nat × Int)) (left : List Nat) (here : Nat) (x0 : Int) (gone : List (Nat × Nat)) : Prop where
  base : Base n s pr fl
  lnd : left.Nodup
  lin : ∀ S, S ∈ left → ∃ x, look fl S = some x
  out : here ∉ left
  at_ : look fl here = some x0
  done : ∀ S x, look fl S = some x → S ∉ left → S ≠ here → x ≤ x0 ∧ Closed n s pr fl S x
  low : ∀ T y, T ∈ left → look fl T = some y → x0 ≤ y
  part : ∀ p, p ∈ gone → ∃ y, look fl p.1 = some y ∧ y ≤ x0 + pr.getD p.2 0
section
variable {n s : Nat} {pr : List Int} {fl : List (Nat × Int)} {left : List Nat} {here : Nat} {x0 : Int} {gone : List (Nat × Nat)}
theorem outer_start (hs : s < 8) : Outer n s pr [(0, 0)] [0] := by
  refine ⟨⟨by simp, rfl, fun S x h => ?_⟩, by simp, fun S h => ?_, fun S x h hl => ?_⟩
  · have h' : (if 0 = S then some (0 : Int) else none) = some x := h
    split at h'
    · rename_i e
      have e2 := Option.some.inj h'
      subst e e2
      exact ⟨Nat.two_pow_pos n, Int.le_refl 0, zeros, null_mem hs, by rw [dot_zeros]; exact Int.le_refl 0⟩
    · cases h'
  · rw [List.mem_singleton.mp h]
    exact ⟨0, rfl⟩
  · exfalso
    have h' : (if 0 = S then some (0 : Int) else none) = some x := h
    split at h'
    · rename_i e
      exact hl (by rw [← e]; exact List.mem_singleton.mpr rfl)
    · cases h'
theorem inner_start (O : Outer n s pr fl left) (hh : here ∈ left) (ha : look fl here = some x0) (hm : ∀ T y, T ∈ left → look fl T = some y → x0 ≤ y) : Inner n s pr fl (left.erase here) here x0 [] := by
  have me : ∀ {T}, T ∈ left.erase here ↔ T ≠ here ∧ T ∈ left := List.Nodup.mem_erase_iff O.lnd
  refine ⟨O.base, O.lnd.erase here, fun S hS => O.lin S (me.mp hS).2, fun h => (me.mp h).1 rfl, ha, fun S x hx hl hne => ?_, fun T y hT hy => hm T y (me.mp hT).2 hy, fun p hp => by cases hp⟩
  obtain ⟨h1, h2⟩ := O.done S x hx (fun z => hl (me.mpr ⟨hne, z⟩))
  exact ⟨h1 here x0 hh ha, h2⟩
/-- what a move does to the dict and the list -/
def newX (fl : List (Nat × Int)) (other : Nat) (there : Int) : Int := match look fl other with
  | none => there
  | some y => if there < y then there else y
def newL (fl : List (Nat × Int)) (left : List Nat) (other : Nat) : List Nat := match look fl other with
  | none => left ++ [other]
  | some _ => left
theorem inner_step (hs : s < 8) (hn : n ≤ 7) (nn : NonNeg pr) (hl : pr.length = n) (I : Inner n s pr fl left here x0 gone) {k : Nat} (hk : k < n) (hg : legal here k = true) (hc : cnt (flip here k) ≤ s) :
    Inner n s pr (put fl (flip here k) (newX fl (flip here k) (x0 + pr.getD k 0))) (newL fl left (flip here k)) here x0 (gone ++ [(flip here k, k)]) := by
  have hp : 0 ≤ pr.getD k 0 := by
    rw [List.getD_eq_getElem?_getD, List.getElem?_eq_getElem (by omega)]
    exact nn _ (List.getElem_mem _)
  have hne : flip here k ≠ here := flip_ne here k
  obtain ⟨b1, b2, v, hv, b3⟩ := I.base.lo here x0 I.at_
  have b128 : here < 128 := Nat.lt_of_lt_of_le b1 (Nat.pow_le_pow_right (by decide) hn)
  obtain ⟨u, hu, hle⟩ := edge hs b128 hv (Nat.lt_of_lt_of_le hk hn) hg hc
  have du : dot u pr ≤ x0 + pr.getD k 0 := by
    have h1 := leq_dot hle nn
    rw [dot_add, dot_unit] at h1
    omega
  have hb0 : look fl here = some x0 := I.at_
  -- the value that is stored
  generalize hO : flip here k = O at *
  generalize hZ : newX fl O (x0 + pr.getD k 0) = z
  have zle : z ≤ x0 + pr.getD k 0 := by
    rw [← hZ]
    unfold newX
    cases look fl O with
    | none => exact Int.le_refl _
    | some y =>
      show (if x0 + pr.getD k 0 < y then x0 + pr.getD k 0 else y) ≤ _
      split <;> omega
  have zold : ∀ y, look fl O = some y → z ≤ y := fun y e => by
    rw [← hZ]
    unfold newX
    rw [e]
    show (if x0 + pr.getD k 0 < y then x0 + pr.getD k 0 else y) ≤ _
    split <;> omega
  have zcase : z = x0 + pr.getD k 0 ∨ look fl O = some z := by
    rw [← hZ]
    unfold newX
    cases look fl O with
    | none => exact .inl rfl
    | some y =>
      show (if x0 + pr.getD k 0 < y then x0 + pr.getD k 0 else y) = _ ∨ some y = some (if x0 + pr.getD k 0 < y then x0 + pr.getD k 0 else y)
      split
      · exact .inl rfl
      · exact .inr rfl
  have dec : ∀ T y, look fl T = some y → ∃ y', look (put fl O z) T = some y' ∧ y' ≤ y := fun T y e => by
    rw [look_put]
    by_cases h : O = T
    · rw [if_pos h]
      exact ⟨z, rfl, zold y (by rw [h]; exact e)⟩
    · rw [if_neg h]
      exact ⟨y, e, Int.le_refl _⟩
  have cl : ∀ S x, Closed n s pr fl S x → Closed n s pr (put fl O z) S x := fun S x h j hj h1 h2 => by
    obtain ⟨y, e, hy⟩ := h j hj h1 h2
    obtain ⟨y', e', hy'⟩ := dec _ _ e
    exact ⟨y', e', by omega⟩
  have lmem : ∀ T, T ∈ newL fl left O ↔ T ∈ left ∨ (T = O ∧ look fl O = none) := fun T => by
    unfold newL
    cases e : look fl O with
    | none =>
      show T ∈ left ++ [O] ↔ _
      rw [List.mem_append, List.mem_singleton]
      simp
    | some y =>
      show T ∈ left ↔ _
      simp
  have o0 : O ≠ here := hne
  refine ⟨⟨?_, ?_, fun S x hx => ?_⟩, ?_, fun S hS => ?_, fun h => ?_, ?_, fun S x hx hl2 hne2 => ?_, fun T y hT hy => ?_, fun p hp2 => ?_⟩
  · rw [keys_put]
    split
    · rename_i e
      refine List.nodup_append.mpr ⟨I.base.nd, by simp, fun a ha b hb => ?_⟩
      rw [List.mem_singleton.mp hb]
      intro e2
      rw [e2] at ha
      exact look_none_iff.mp e ha
    · exact I.base.nd
  · rw [look_put]
    by_cases h : O = 0
    · rw [if_pos h]
      have z0 := zold 0 (by rw [h]; exact I.base.zero)
      rcases zcase with z1 | z1
      · have : z = 0 := by omega
        rw [this]
      · rw [h, I.base.zero] at z1
        rw [← Option.some.inj z1]
    · rw [if_neg h]
      exact I.base.zero
  · rw [look_put] at hx
    by_cases h : O = S
    · rw [if_pos h] at hx
      have e := Option.some.inj hx
      subst e
      rcases zcase with z1 | z1
      · refine ⟨?_, by omega, u, by rw [← h]; exact hu, by omega⟩
        rw [← h, ← hO]
        exact flip_lt b1 hk
      · rw [h] at z1
        exact I.base.lo S z z1
    · rw [if_neg h] at hx
      exact I.base.lo S x hx
  · unfold newL
    cases e : look fl O with
    | none =>
      show (left ++ [O]).Nodup
      refine List.nodup_append.mpr ⟨I.lnd, by simp, fun a ha b hb => ?_⟩
      rw [List.mem_singleton.mp hb]
      intro e2
      rw [e2] at ha
      obtain ⟨x, hx⟩ := I.lin O ha
      rw [e] at hx
      cases hx
    | some y => exact I.lnd
  · rcases (lmem S).mp hS with h | ⟨h, _⟩
    · obtain ⟨x, hx⟩ := I.lin S h
      obtain ⟨y', e', _⟩ := dec S x hx
      exact ⟨y', e'⟩
    · exact ⟨z, by rw [look_put, if_pos h.symm]⟩
  · rcases (lmem here).mp h with h | ⟨h, _⟩
    · exact I.out h
    · exact o0 h.symm
  · rw [look_put, if_neg o0]
    exact hb0
  · rw [look_put] at hx
    have hl3 : S ∉ left := fun h => hl2 ((lmem S).mpr (.inl h))
    by_cases h : O = S
    · rw [if_pos h] at hx
      have e := Option.some.inj hx
      cases eO : look fl O with
      | none => exact absurd ((lmem S).mpr (.inr ⟨h.symm, eO⟩)) hl2
      | some y =>
        obtain ⟨h1, h2⟩ := I.done S y (by rw [← h]; exact eO) hl3 hne2
        have zy : z = y := by
          have := zold y eO
          rcases zcase with z1 | z1
          · omega
          · rw [eO] at z1
            exact (Option.some.inj z1).symm
        rw [← e, zy]
        refine ⟨h1, ?_⟩
        have h3 := cl S y h2
        rw [zy] at h3
        exact h3
    · rw [if_neg h] at hx
      obtain ⟨h1, h2⟩ := I.done S x hx hl3 hne2
      exact ⟨h1, cl S x h2⟩
  · rw [look_put] at hy
    by_cases h : O = T
    · rw [if_pos h] at hy
      have e := Option.some.inj hy
      rcases zcase with z1 | z1
      · omega
      · rcases (lmem T).mp hT with h2 | ⟨_, h2⟩
        · have := I.low T z h2 (by rw [← h]; exact z1)
          omega
        · rw [h2] at z1
          cases z1
    · rw [if_neg h] at hy
      rcases (lmem T).mp hT with h2 | ⟨h2, _⟩
      · exact I.low T y h2 hy
      · exact absurd h2.symm h
  · rcases List.mem_append.mp hp2 with h | h
    · obtain ⟨y, e, hy⟩ := I.part p h
      obtain ⟨y', e', hy'⟩ := dec _ _ e
      exact ⟨y', e', by omega⟩
    · rw [List.mem_singleton.mp h]
      exact ⟨z, by rw [look_put, if_pos rfl], zle⟩
theorem outer_next (I : Inner n s pr fl left here x0 (next n s here)) : Outer n s pr fl left := by
  refine ⟨I.base, I.lnd, I.lin, fun S x hx hl => ?_⟩
  by_cases h : S = here
  · subst h
    rw [I.at_] at hx
    have e := Option.some.inj hx
    subst e
    refine ⟨fun T y hT hy => I.low T y hT hy, fun k hk h1 h2 => ?_⟩
    exact I.part (flip S k, k) (mem_next.mpr ⟨rfl, hk, h1, h2⟩)
  · obtain ⟨h1, h2⟩ := I.done S x hx hl h
    exact ⟨fun T y hT hy => by have := I.low T y hT hy; omega, h2⟩
/-- at the end: what the dict tells is the least -/
theorem far_min (hs : s < 8) (hn : n ≤ 7) (O : Outer n s pr fl []) {S : Nat} (hS : S < 2 ^ n) : IsMin (look fl S) (F s S) pr := by
  have up : ∀ (t : Nat) (S : Nat) (v : List Nat), v.sum = t → S < 2 ^ n → v ∈ F s S → ∃ x, look fl S = some x ∧ x ≤ dot v pr := by
    intro t
    induction t using Nat.strongRecOn with
    | _ t ih =>
      intro S v ht hS hv
      have h128 : S < 128 := Nat.lt_of_lt_of_le hS (Nat.pow_le_pow_right (by decide) hn)
      rcases back hs h128 hv with ⟨h1, h2⟩ | ⟨k, hk, h1, h2, u, hu, e⟩
      · subst h1 h2
        exact ⟨0, O.base.zero, by rw [dot_zeros]; exact Int.le_refl 0⟩
      · have hkn : k < n := by
          by_cases hkn : k < n
          · exact hkn
          · exfalso
            have h3 := zeroAt hs h128 hv hk (Nat.lt_of_lt_of_le hS (Nat.pow_le_pow_right (by decide) (by omega)))
            have h4 := add_unit_get u k
            rw [e] at h4
            omega
        have hs1 := sum_add_unit u k
        rw [e] at hs1
        obtain ⟨x, hx, hle⟩ := ih u.sum (by omega) (flip S k) u rfl (flip_lt hS hkn) hu
        obtain ⟨_, hc⟩ := O.done (flip S k) x hx (by simp)
        obtain ⟨y, hy, hle2⟩ := hc k hkn (by rw [legal_flip h128 hk]; exact h1) (by rw [flip_flip]; exact h2)
        rw [flip_flip] at hy
        refine ⟨y, hy, ?_⟩
        rw [← e, dot_add, dot_unit]
        omega
  cases e : look fl S with
  | none =>
    show F s S = []
    cases q : F s S with
    | nil => rfl
    | cons v r =>
      obtain ⟨x, hx, _⟩ := up _ S v rfl hS (by rw [q]; exact List.mem_cons_self)
      rw [e] at hx
      cases hx
  | some x =>
    obtain ⟨_, _, v, hv, hle⟩ := O.base.lo S x e
    have low : ∀ w, w ∈ F s S → x ≤ dot w pr := fun w hw => by
      obtain ⟨y, hy, h2⟩ := up _ S w rfl hS hw
      rw [e] at hy
      have := Option.some.inj hy
      omega
    exact ⟨⟨v, hv, by have := low v hv; omega⟩, low⟩
theorem far_alone (hs : s < 8) (h1 : 1 ≤ n) (hn : n ≤ 7) (nn : NonNeg pr) (O : Outer n s pr fl []) : look fl (1 <<< (n - 1)) = T s n true pr := by
  obtain ⟨d, rfl⟩ : ∃ d, n = d + 1 := ⟨n - 1, by omega⟩
  have h := far_min hs hn O (S := 1 <<< d) (by rw [Nat.shiftLeft_eq, Nat.one_mul]; exact Nat.pow_lt_pow_right (by decide) (by omega))
  exact h.uniq
theorem far_reached (hs : s < 8) (h1 : 1 ≤ n) (hn : n ≤ 7) (nn : NonNeg pr) (O : Outer n s pr fl []) : Least (T s n false pr) (look fl) ((List.range (2 ^ (n - 1))).map (· + 2 ^ (n - 1))) := by
  obtain ⟨d, rfl⟩ : ∃ d, n = d + 1 := ⟨n - 1, by omega⟩
  have hc := List.all_eq_true.mp (List.all_eq_true.mp chkRv_ok s (List.mem_range.mpr hs)) d (List.mem_range.mpr (by omega))
  refine IsMin.union (L := F s) (q := pr) (fun m hm => ?_) ((isMin_minDot (TV s (d + 1) false) pr).eqv nn hc)
  obtain ⟨a, ha, rfl⟩ := List.mem_map.mp hm
  have ha := List.mem_range.mp ha
  refine far_min hs hn O ?_
  have : 2 ^ (d + 1) = 2 * 2 ^ d := by rw [Nat.pow_succ]; omega
  have e : d + 1 - 1 = d := by omega
  rw [e] at ha
  show a + 2 ^ (d + 1 - 1) < 2 ^ (d + 1)
  rw [e]
  omega
/-- how many turns are left at most -/
theorem outer_len (O : Outer n s pr fl left) : left.length ≤ fl.length ∧ fl.length ≤ 2 ^ n := by
  constructor
  · have h1 : left.length ≤ (fl.map (·.1)).length := by
      have key : ∀ (l m : List Nat), l.Nodup → (∀ x, x ∈ l → x ∈ m) → l.length ≤ m.length := by
        intro l
        induction l with
        | nil => intro m _ _; exact Nat.zero_le _
        | cons a r ih =>
          intro m hn h
          obtain ⟨n1, n2⟩ := List.nodup_cons.mp hn
          have h2 := ih (m.erase a) n2 (fun x hx => by
            have hx2 := h x (List.mem_cons_of_mem _ hx)
            exact (List.mem_erase_of_ne (fun e => n1 (by rw [← e]; exact hx))).mpr hx2)
          have hm : a ∈ m := h a List.mem_cons_self
          rw [List.length_erase_of_mem hm] at h2
          have : 0 < m.length := List.length_pos_of_mem hm
          rw [List.length_cons]
          omega
      refine key left _ O.lnd fun x hx => ?_
      obtain ⟨y, hy⟩ := O.lin x hx
      exact List.mem_map.mpr ⟨_, look_some_mem hy, rfl⟩
    rw [List.length_map] at h1
    exact h1
  · have h2 := nodup_le (2 ^ n) (fl.map (·.1)) O.base.nd (fun x hx => by
      obtain ⟨p, hp, e⟩ := List.mem_map.mp hx
      rw [← e]
      exact (O.base.lo p.1 p.2 (look_of_mem O.base.nd hp)).1)
    rw [List.length_map] at h2
    exact h2
end
end K38
namespace K38
open PySem PySem.Spec PyProof.Rows L2
/-! ### the memo: a dict whose keys are tuples (int, int, int, bool) -/
abbrev MK := Int × Int × Int × Bool
def nkey (k : MK) : NestedKey := .tup [.num k.1, .num k.2.1, .num k.2.2.1, .num (if k.2.2.2 = true then 1 else 0)]
def tkey (k : MK) : List V := [.int k.1, .int k.2.1, .int k.2.2.1, .bl k.2.2.2]
theorem nkey_inj {a b : MK} (h : nkey a = nkey b) : a = b := by
  obtain ⟨a1, a2, a3, a4⟩ := a
  obtain ⟨b1, b2, b3, b4⟩ := b
  unfold nkey at h
  injection h with h
  injection h with h1 h
  injection h with h2 h
  injection h with h3 h
  injection h with h4 h
  injection h1 with h1
  injection h2 with h2
  injection h3 with h3
  injection h4 with h4
  have h1 : a1 = b1 := h1
  have h2 : a2 = b2 := h2
  have h3 : a3 = b3 := h3
  subst h1 h2 h3
  cases a4 <;> cases b4 <;> simp at h4 ⊢
abbrev Ms := List (MK × Addr × V)
def valM (ms : Ms) (k : MK) : Option V := (ms.find? fun m => decide (m.1 = k)).map (·.2.2)
def storeM (ms : Ms) (k : MK) (b : Addr) (v : V) : Ms :=
  if (valM ms k).isSome = true then ms.map (fun m => if m.1 = k then (m.1, m.2.1, v) else m) else ms ++ [(k, b, v)]
abbrev MP : Ms → List (NestedKey × Addr × Value) → Prop := Paired fun p q => q.1 = nkey p.1 ∧ q.2.1 = p.2.1 ∧ RelV p.2.2 q.2.2
def MemoR (P : Program) (w : World) (d : Addr) (ms : Ms) (h : Heap) : Prop := (d == sysModules) = false ∧
  ∃ xs, MP ms xs ∧ ∃ o es ep, h.get? d = some o ∧ o.ExactDict ∧ o.data = .dict es ep ∧ es.toList = xs.map (entryOfKey (nestedKind P w)) ∧ (xs.map (·.1)).Nodup
/-- at d stands the memo ms -/
def MemoO (P : Program) (w : World) (d : Addr) (ms : Ms) : HO := .ext (MemoR P w d ms)
theorem MP.val {ms : Ms} {xs : List (NestedKey × Addr × Value)} (r : MP ms xs) (k : MK) : RelO (valM ms k) ((atKey xs (nkey k)).map (·.2)) := by
  induction r with
  | nil => exact True.intro
  | @cons p q ps qs h t ih =>
    obtain ⟨h1, h2, h3⟩ := h
    by_cases e : p.1 = k
    · have e' : q.1 = nkey k := by rw [h1, e]
      have a : valM (p :: ps) k = some p.2.2 := by simp [valM, List.find?_cons, e]
      have b : atKey (q :: qs) (nkey k) = some q.2 := by simp [atKey, List.find?_cons, e']
      rw [a, b]
      exact h3
    · have e' : ¬ q.1 = nkey k := fun z => e (nkey_inj (h1.symm.trans z))
      have a : valM (p :: ps) k = valM ps k := by simp [valM, List.find?_cons, e]
      have b : atKey (q :: qs) (nkey k) = atKey qs (nkey k) := by simp [atKey, List.find?_cons, e']
      rw [a, b]
      exact ih
theorem MP.repl {ms : Ms} {xs : List (NestedKey × Addr × Value)} (r : MP ms xs) (k : MK) {y : V} {u : Value} (ry : RelV y u) :
    MP (ms.map fun m => if m.1 = k then (m.1, m.2.1, y) else m) (xs.map (putAt (nkey k) u)) := by
  induction r with
  | nil => exact .nil
  | @cons p q ps qs h t ih =>
    rw [List.map_cons, List.map_cons]
    refine .cons ?_ ih
    obtain ⟨h1, h2, h3⟩ := h
    unfold putAt
    by_cases e : p.1 = k
    · rw [if_pos e, if_pos (by rw [h1, e])]
      exact ⟨h1, h2, ry⟩
    · rw [if_neg e, if_neg (fun z => e (nkey_inj (h1.symm.trans z)))]
      exact ⟨h1, h2, h3⟩
theorem MP.store {ms : Ms} {xs : List (NestedKey × Addr × Value)} (r : MP ms xs) (k : MK) (b : Addr) {y : V} {u : Value} (ry : RelV y u) : MP (storeM ms k b y) (storedH xs (nkey k) b u) := by
  have e : (valM ms k).isSome = (atKey xs (nkey k)).isSome := by
    rw [(r.val k).isSome_eq, Option.isSome_map]
  unfold storeM storedH
  rw [e]
  by_cases q : (atKey xs (nkey k)).isSome = true
  · rw [if_pos q, if_pos q]
    exact r.repl k ry
  · rw [if_neg q, if_neg q]
    exact Paired.snoc r ⟨rfl, rfl, ry⟩
theorem valM_store {ms : Ms} {k : MK} {b : Addr} {y : V} : valM (storeM ms k b y) k = some y := by
  unfold storeM
  cases e : valM ms k with
  | some z =>
    rw [if_pos (show (some z).isSome = true from rfl)]
    have key : ∀ l : Ms, (valM l k).isSome = true → valM (l.map fun m => if m.1 = k then (m.1, m.2.1, y) else m) k = some y := by
      intro l
      induction l with
      | nil => intro h; cases h
      | cons p r ih =>
        intro h
        rw [List.map_cons]
        by_cases q : p.1 = k
        · rw [if_pos q]
          simp [valM, List.find?_cons, q]
        · rw [if_neg q]
          have a : ∀ l : Ms, valM (p :: l) k = valM l k := fun l => by simp [valM, List.find?_cons, q]
          rw [a] at h ⊢
          exact ih h
    exact key ms (by rw [e]; rfl)
  | none =>
    rw [if_neg (by simp)]
    have key : ∀ l : Ms, valM l k = none → valM (l ++ [(k, b, y)]) k = some y := by
      intro l
      induction l with
      | nil => intro _; simp [valM]
      | cons p r ih =>
        intro h
        by_cases q : p.1 = k
        · exfalso
          have a : valM (p :: r) k = some p.2.2 := by simp [valM, List.find?_cons, q]
          rw [a] at h
          cases h
        · have a : ∀ l : Ms, valM (p :: l) k = valM l k := fun l => by simp [valM, List.find?_cons, q]
          rw [a] at h
          rw [List.cons_append, a]
          exact ih h
    exact key ms e
theorem mem_store {ms : Ms} {k : MK} {b : Addr} {y : V} {m : MK × Addr × V} (h : m ∈ storeM ms k b y) :
    (m.1 = k ∧ m.2.2 = y ∧ (m.2.1 = b ∨ ∃ z, (m.1, m.2.1, z) ∈ ms)) ∨ m ∈ ms := by
  unfold storeM at h
  split at h
  · obtain ⟨p, hp, e⟩ := List.mem_map.mp h
    by_cases q : p.1 = k
    · rw [if_pos q] at e
      subst e
      exact .inl ⟨q, rfl, .inr ⟨p.2.2, hp⟩⟩
    · rw [if_neg q] at e
      subst e
      exact .inr hp
  · rcases List.mem_append.mp h with h | h
    · exact .inr h
    · rw [List.mem_singleton.mp h]
      exact .inl ⟨rfl, rfl, .inl rfl⟩
theorem length_store (ms : Ms) (k : MK) (b : Addr) (y : V) : (storeM ms k b y).length ≤ ms.length + 1 := by
  unfold storeM
  split
  · rw [List.length_map]; omega
  · rw [List.length_append, List.length_singleton]; omega
theorem keys_store (ms : Ms) (k : MK) (b : Addr) (y : V) : (storeM ms k b y).map (·.1) = if (valM ms k).isSome = true then ms.map (·.1) else ms.map (·.1) ++ [k] := by
  unfold storeM
  split
  · rw [List.map_map]
    refine List.map_congr_left fun p _ => ?_
    show (if p.1 = k then (p.1, p.2.1, y) else p).1 = p.1
    split <;> rfl
  · rw [List.map_append] <;> rfl
theorem valM_mem {ms : Ms} {k : MK} {v : V} (h : valM ms k = some v) : ∃ m, m ∈ ms ∧ m.1 = k ∧ m.2.2 = v := by
  unfold valM at h
  obtain ⟨m, hm, e⟩ := Option.map_eq_some_iff.mp h
  have h1 := List.find?_some hm
  exact ⟨m, List.mem_of_find?_eq_some hm, of_decide_eq_true h1, e⟩
theorem valM_none {ms : Ms} {k : MK} (h : valM ms k = none) : k ∉ ms.map (·.1) := by
  intro hm
  obtain ⟨m, hm, e⟩ := List.mem_map.mp hm
  unfold valM at h
  rw [Option.map_eq_none_iff] at h
  have := List.find?_eq_none.mp h m hm
  exact this (decide_eq_true e)
/-- the memo's keys lie where they are told -/
def Keys (H : Hp) (ms : Ms) : Prop := ∀ m, m ∈ ms → H m.2.1 = some (.tup (tkey m.1))
section
variable {P : Program} {w : World} {H : Hp} {h : Heap} {d a : Addr} {ms : Ms}
theorem nested_of (ok : HOk P w H h) {k : MK} (e : H a = some (.tup (tkey k))) : (nestedKind P w).is h (nkey k) a := by
  obtain ⟨_, its, r, o, h1, h2, n, h3⟩ := (show ObjOk P w H h a (.tup (tkey k)) from ok a _ e)
  refine ⟨?_, by simp [nkey, NestedKey.depth, NestedKey.depthAll]⟩
  refine .tup h1 h2 h3 ?_
  have r' : Vals (tkey k) its := r
  unfold tkey at r'
  show NestedAll h _ its.toArray.toList
  cases r' with
  | cons r1 r' =>
    cases r' with
    | cons r2 r' =>
      cases r' with
      | cons r3 r' =>
        cases r' with
        | cons r4 r' =>
          cases r'
          obtain ⟨t1, rfl⟩ := r1
          obtain ⟨t2, rfl⟩ := r2
          obtain ⟨t3, rfl⟩ := r3
          obtain rfl := r4
          exact .cons (.int _ _) (.cons (.int _ _) (.cons (.int _ _) (.cons (.bool rfl) .nil)))
theorem memo_of (ok : HOk P w H h) (e : H d = some (MemoO P w d ms)) (ks : Keys H ms) : (d == sysModules) = false ∧ ∃ xs, MP ms xs ∧ h.DictOfH (nestedKind P w) d xs := by
  obtain ⟨⟨hd, xs, r, o, es, ep, h1, h2, h3, h4, h5⟩, _, _⟩ := ok d _ e
  refine ⟨hd, xs, r, o, es, ep, h1, h2, h3, h4, fun x hx => ?_, h5⟩
  have all : ∀ {l : Ms} {m : List (NestedKey × Addr × Value)}, MP l m → (∀ z, z ∈ l → H z.2.1 = some (.tup (tkey z.1))) → ∀ x ∈ m, (nestedKind P w).is h x.1 x.2.1 := by
    intro l m q
    induction q with
    | nil => intro _ x hx; exact nomatch hx
    | @cons p q ps qs hq t ih =>
      intro hz x hx
      rcases List.mem_cons.mp hx with e | hx
      · subst e
        rw [hq.1, hq.2.1]
        exact nested_of ok (hz p List.mem_cons_self)
      · exact ih (fun z h => hz z (List.mem_cons_of_mem _ h)) x hx
  exact all r ks x hx
theorem memo_ok (hr : MemoR P w d ms h) : ObjOk P w H h d (MemoO P w d ms) := by
  obtain ⟨hd, xs, r, o, es, ep, h1, h2, h3, h4, h5⟩ := id hr
  refine ⟨hr, ⟨o, h1⟩, fun g1 g2 g k => ?_⟩
  obtain ⟨hd, xs, r, o, es, ep, h1, h2, h3, h4, h5⟩ := g
  exact ⟨hd, xs, r, o, es, ep, k _ h1, h2, h3, h4, h5⟩
end
section
variable {X : Cx}
theorem room_n {A : Around} (h : A.units + 64 < cLine) : (nestedKind X.prog X.w).room A.in1 := by
  show A.units + 1 + 8 < cLine
  omega
/-- {} whose keys will be such tuples -/
def tDNewM (P : Program) (w : World) : TE := fun _ H Q => ∀ d, H d = none → Q (.ref d) (upd H d (MemoO P w d []))
theorem pe_dnewM {pos : Pos} : PE X (.Dict [] [] pos) (tDNewM X.prog X.w) := ⟨fun pins s σ H Q I h => by
  refine wpAny_Dict_empty ⟨.ref s.heap.objs.size, _, I.laid (a := s.heap.objs.size) (o := MemoO X.prog X.w s.heap.objs.size []) (t' := s.toks) (fun _ _ q => Heap.get?_push_of_some _ q) (Nat.le_refl _) ?_, rfl, h _ (I.hok.fresh (Nat.le_refl _))⟩
  refine memo_ok ⟨?_, [], .nil, _, #[], _, Heap.get?_push_size s.heap rfl, ⟨rfl, rfl, rfl⟩, rfl, rfl, List.nodup_nil⟩
  have := I.big
  exact beq_eq_false_iff_ne.mpr (Nat.ne_of_gt this)⟩
def rNotInM (P : Program) (w : World) : R2 := fun x y H Q => ∃ a d k ms, x = .ref a ∧ y = .ref d ∧ H a = some (.tup (tkey k)) ∧ H d = some (MemoO P w d ms) ∧ Keys H ms ∧ Q (.bl (!(valM ms k).isSome)) H
theorem op_notInM (hu : X.A.units + 64 < cLine) : OpR X (compareOp .NotIn) (rNotInM X.prog X.w) := by
  intro pins s σ H x y v u Q I rx ry q
  obtain ⟨a, d, k, ms, rfl, rfl, ha, hd, ks, q⟩ := q
  cases rx
  cases ry
  obtain ⟨hsm, xs, r, dd⟩ := memo_of I.hok hd ks
  refine wpAny_notIn_heap (room_n hu) (nested_of I.hok ha) hsm dd ?_
  refine fin_bl (I.tok _) q ?_
  rw [(r.val k).isSome_eq, Option.isSome_map]
def rIxM (P : Program) (w : World) : R2 := fun x y H Q => ∃ a d k ms v, x = .ref d ∧ y = .ref a ∧ H a = some (.tup (tkey k)) ∧ H d = some (MemoO P w d ms) ∧ Keys H ms ∧ valM ms k = some v ∧ Q v H
theorem ix_memo (hu : X.A.units + 64 < cLine) {a b : Expr} {ta tb : TE} {pos : Pos} (ha : PE X a ta) (hb : PE X b tb) (hs : PlainIxT b) : PE X (.Subscript a b pos) (tOp (rIxM X.prog X.w) ta tb) := by
  refine ⟨fun pins s σ H Q I h => ?_⟩
  refine Subscript_ (binT ha hb I h fun v u s2 x y H2 I2 rx ry q => ?_)
  obtain ⟨a, d, k, ms, vv, rfl, rfl, ha, hd, ks, hv, q⟩ := q
  cases rx
  cases ry
  obtain ⟨hsm, xs, r, dd⟩ := memo_of I2.hok hd ks
  obtain ⟨w', hw, rw'⟩ := RelO.some_of (v := vv) (o := (atKey xs (nkey k)).map (·.2)) (by rw [← hv]; exact r.val k)
  obtain ⟨p, hp, hp2⟩ := Option.map_eq_some_iff.mp hw
  have key : wpAny (model X.prog X.w) X.A (getItem (.ref d) (.ref a)) (EP X pins σ Q) X.xe s2 := by
    refine wpAny_getItem_heap (room_n hu) (nested_of I2.hok ha) dd hp ?_
    rw [hp2]
    exact ⟨vv, H2, I2.tok _, rw', q⟩
  exact tail_any dd.typeIs PySem.F.slot_dict_getitem.lookup key (hs _ _)
def rSetM (P : Program) (w : World) : V → V → V → Hp → (Hp → Prop) → Prop := fun o i v H Q => ∃ a d k ms, o = .ref d ∧ i = .ref a ∧ H a = some (.tup (tkey k)) ∧ H d = some (MemoO P w d ms) ∧ Keys H ms ∧ ms.length ≤ 100000 ∧ Q (upd H d (MemoO P w d (storeM ms k a v)))
theorem set_memo (hu : X.A.units + 64 < cLine) : PSet X (rSetM X.prog X.w) := by
  intro pins s σ H o i v ov iv u Q I ro ri rv q
  obtain ⟨a, d, k, ms, rfl, rfl, ha, hd, ks, hl, q⟩ := q
  cases ro
  cases ri
  obtain ⟨hsm, xs, r, dd⟩ := memo_of I.hok hd ks
  have hz : xs.length ≤ sizeLine := by
    rw [← Paired.length r, sizeLine_eq]
    omega
  refine wpAny_setItem_heap (hsz := hz) (room_n hu) (nested_of I.hok ha) dd fun h' dd' hs => ⟨_, ?_, q⟩
  obtain ⟨q1, es, ep, hq, h2, h3, h4, _, h5⟩ := dd'
  exact I.write (x := d) (e := d) (t' := s.toks + (nestedKind X.prog X.w).draws (nkey k)) (by rw [hd]; exact True.intro) (.inl rfl) (fun b z hb e => (hs.2 b hb).trans e) ⟨q1, hq⟩ (memo_ok ⟨hsm, _, r.store k a rv, q1, es, ep, hq, h2, h3, h4, h5⟩)
end
end K38
/-! K38: min(xs, key=lambda x: d[x]), d a name of the def around that the lambda captures. -/
namespace K38
open PySem PySem.Spec PyProof.Rows L2 LamX
section
variable {X : Cx} {pins : List (Addr × Obj)} {σ : L2.St} {H : Hp} {s : Shared}
/-- all objects but the frame's persist where the ledger of all is borne -/
theorem persist (I : Inv X pins σ H s) {m : Str → Option Value} {h : Heap} {more : List (Addr × Obj)} (F : Fr X.base X.env.locals h m) (N : News X.base X.env.locals h (allNews X.base s.heap X.env.locals ++ more)) :
    ∀ b o, b ≠ X.env.locals → s.heap.get? b = some o → h.get? b = some o := fun b o hb e => by
  cases q : X.base.get? b with
  | some u =>
    have z := I.bk b u q
    rw [e] at z
    cases z
    exact F.keep b _ q
  | none => exact (N (b, o) (List.mem_append_left _ (mem_allNews hb q e))).1
theorem ns_uniq {h : Heap} {a : Addr} {m m' : Str → Option Value} (x : h.Ns a m) (y : h.Ns a m') : m = m' := by
  obtain ⟨o, es, ep, e, d, _, f⟩ := x
  obtain ⟨o', es', ep', e', d', _, f'⟩ := y
  rw [e] at e'
  cases e'
  rw [d] at d'
  cases d'
  funext z
  rw [← f z, ← f' z]
theorem inv_back (I : Inv X pins σ H s) {m : Str → Option Value} (hm : s.heap.Ns X.env.locals m) {h' : Heap} {t' : Nat} (F : Fr X.base X.env.locals h' m) (N : News X.base X.env.locals h' (allNews X.base s.heap X.env.locals)) :
    Inv X pins σ H { s with heap := h', toks := t' } := by
  have ps := persist (more := []) I F (by rw [List.append_nil]; exact N)
  refine I.step (g' := s.gens) (d' := s.drawn) (ch := []) (fun _ z => nomatch z) (fun b o hb _ _ e _ => ps b o hb e) (fun b o hb _ _ e _ => ⟨o.slots, ps b o hb e⟩) (fun b o _ _ n => n) (fun b o _ e => ?_) (fun _ _ e => e) (fun _ _ _ e => e) (fun b qs e => ⟨#[], by rw [e]; simp⟩) (fun m2 h2 => ?_) (fun b u e => ?_) I.bare
  · by_cases hb : b = X.env.locals
    · obtain ⟨oL, _, _, eL, _⟩ := F.ns
      rw [hb]
      exact ⟨oL, eL⟩
    · exact ⟨o, ps b o hb e⟩
  · rw [ns_uniq h2 hm]
    exact F.ns
  · refine (I.hok b u e).stay (fun c v hc q => ps c v ?_ q) (fun _ q => q) fun _ _ q => q
    intro z
    rcases hc with z2 | z2
    · rw [← z2, z, I.free] at e
      cases e
    · rw [z, I.free] at z2
      cases z2
end
/-! ### the lambda at work -/
/-- its names: the parameter, the captured dict -/
structure LamD (sc scope : Scope) (pn dn : Str) : Prop where
  kind : scope.kind = .function
  co : scope.isCoroutine = false
  gen : scope.isGenerator = false
  nocell : ∀ y ∈ scope.names, y.2 ≠ .cell
  par : scope.names.lookup pn = some .local
  dic : scope.names.lookup dn = some .free
  has : sc.names.lookup dn = some .cell
  one : ∀ y ∈ scope.names, y.2 = .free → y.1 = dn
section
variable {prog : Program} {w : World} {A : Around} {E : Value → Shared → Prop} {s : Shared}
theorem lam_run {q pn dn : Str} {params : Arguments} {scope sc : Scope} {p1 p2 p3 : Pos} {clos : List (Str × Addr)} {pm ctv : Value} {c c' d f : Addr} {k x : Int} {t tx : Tok} {fm : Key → Option Value} {Q : Value → Shared → Prop} (S : LamD sc scope pn dn)
    (hd1 : (pn == ("__debug__" : Str)) = false) (hd2 : (dn == ("__debug__" : Str)) = false) (hd3 : (dn == ("__classdict__" : Str)) = false)
    (hf : s.heap.get? f = some (PySem.W.kla_obj "<lambda>" q params (.Subscript (.Name dn p1) (.Name pn p2) p3) scope clos pm c' ctv)) (hroom : A.depth < recursionLimit) (hrec : s.heap.CodeRec (.ref c') q) (hlim : s.heap.NoLimit)
    (hbind : ∀ v : Value, bindArgs (PySem.W.kla_fn "<lambda>" q params (.Subscript (.Name dn p1) (.Name pn p2) p3) scope clos pm (.ref c') ctv) ⟨[v], []⟩ = pure [(pn, v)])
    (hc : clos.lookup dn = some c) (hcell : s.heap.IsCell c (some (.ref d))) (hm : s.heap.MapOf (mixKind prog w) d fm) (hx : fm (Sum.inl k) = some (.int x tx))
    (h : ∀ h' tk, (∀ b o, s.heap.get? b = some o → h'.get? b = some o) → Q (.int x tx) { s with heap := h', toks := tk }) :
    wpAny (model prog w) A (call (.ref f) [.int k t]) Q E s := by
  refine wpAny_call ?_
  refine PySem.W.kla_callFunE hroom hf rfl S.co S.gen rfl hrec ?_
  rw [hbind]
  refine wpAny_pure (wpAny_newFunctionEnv S.nocell (fun y hy => ?_) (fun h₁ hns hsb => ⟨hlim.fresh _ hsb, ?_⟩) S.kind)
  · rw [List.mem_singleton.mp hy]
    exact S.par
  have kp : ∀ b o, s.heap.get? b = some o → h₁.get? b = some o := fun b o e => hsb.extBut b o (Nat.ne_of_lt (Heap.lt_size e)) (Heap.get?_push_of_some _ e)
  show codeAny _ _ (.expr (.Subscript (.Name dn p1) (.Name pn p2) p3) (PySem.W.envX q scope s.heap.objs.size f (.ref c') clos)) _ _
  refine PySem.W.kla_codeExpr ?_
  have m1 : h₁.MapOf (mixKind prog w) d fm := by
    obtain ⟨o, es, ep, e, r⟩ := hm
    exact ⟨o, es, ep, kp _ _ e, r⟩
  have cl1 : h₁.IsCell c (some (.ref d)) := by
    obtain ⟨o, ho, hd⟩ := hcell
    exact ⟨o, kp _ _ ho, hd⟩
  refine subD_of (T := "dict") PySem.F.slot_dict_getitem.lookup (fun o i => rfl) (wpAny_Name (wpAny_loadName_free (env := PySem.W.envX q scope s.heap.objs.size f (.ref c') clos) S.kind S.dic hc cl1 ?_ hd3) hd2)
  refine wpAny_Name (wpAny_loadName_local (env := PySem.W.envX q scope s.heap.objs.size f (.ref c') clos) S.kind S.par hns (v := .int k t) ?_ ⟨Heap.MapOf.typeIs (s := { s with heap := h₁, toks := s.toks + [(pn, Value.int k t)].length }) m1, ?_⟩) hd1
  · show List.lookup pn [(pn, Value.int k t)] = _
    simp [List.lookup]
  · exact wpAny_getItem_of (knd := mixKind prog w) (mixKind_int prog w k t) m1 hx (h _ _ kp)
end
/-! ### the rule -/
def tMinD (T : List (Addr × Str)) (j : Nat) (t : TA) : TE := fun σ H Q => t σ H fun xs H1 => ∃ (a d : Addr) (ns : List Int) (kvs : List (Key × V)), xs = [.ref a] ∧ Tabs T H1 ∧ σ[j]? = some (some (.ref d)) ∧ H1 a = some (.lst (ns.map V.int)) ∧ H1 d = some (.dK kvs) ∧
  0 < ns.length ∧ (∀ k, k ∈ ns → ∃ x, valV kvs (Sum.inl k) = some (.int x)) ∧
  ∀ (H2 : Hp) (k x : Int), ExtN H1 H2 → Tabs T H2 → k ∈ ns → valV kvs (Sum.inl k) = some (.int x) → (∀ k' x', k' ∈ ns → valV kvs (Sum.inl k') = some (.int x') → x ≤ x') → Q (.int k) H2
section
variable {X : Cx}
theorem pe_minD {T : List (Addr × Str)} {c P : Addr} {j : Nat} {pn dn : Str} {params : Arguments} {scope : Scope} {e : Expr} {t : TA} {p1 p2 p3 p lpos kpos pos : Pos} (hcalm : X.calm = true) (hfn : X.fn dn = true) (hr : X.A.depth + 2 < recursionLimit) (hg : Gl X "min") (hm : X.mg "min" = none) (pa : PA X (e :: []) t)
    (S : LamD X.env.scope scope pn dn) (hN : X.N[j]? = some dn) (TB : TabB X.base X.mg c P) (hcode : X.env.code = .ref c) (hmT : (P, X.env.qual ++ "<lambda>") ∈ T) (hu : ∀ p ∈ T, p.1 = P → p.2 = X.env.qual ++ "<lambda>") (hdef : defaultsOf params X.env = ([], []))
    (hbind : ∀ (q : Str) (cl : List (Str × Addr)) (pm cv ctv v : Value), bindArgs (PySem.W.kla_fn "<lambda>" q params (.Subscript (.Name dn p1) (.Name pn p2) p3) scope cl pm cv ctv) ⟨[v], []⟩ = pure [(pn, v)])
    (hd1 : (pn == ("__debug__" : Str)) = false := by decide) (hd2 : (dn == ("__debug__" : Str)) = false := by decide) (hd3 : (dn == ("__classdict__" : Str)) = false := by decide)
    (hst : backTo pos (starEach (e :: []) X.env) = (false, eval e X.env) :: backTo pos (starEach [] X.env) := by rfl) (hpl : (backTo pos (starEach (e :: []) X.env)).any (·.1) = false := by rfl)
    (hall : (backToKw pos (keywordEach [⟨some (Str.ofString "key"), .Lambda params (.Subscript (.Name dn p1) (.Name pn p2) p3) scope lpos, kpos⟩] X.env)).all (·.1.isSome) = true := by rfl)
    (hnone : (backToKw pos (keywordEach [⟨some (Str.ofString "key"), .Lambda params (.Subscript (.Name dn p1) (.Name pn p2) p3) scope lpos, kpos⟩] X.env)).any (·.1.isNone) = false := by rfl)
    (hks : (backToKw pos (keywordEach [⟨some (Str.ofString "key"), .Lambda params (.Subscript (.Name dn p1) (.Name pn p2) p3) scope lpos, kpos⟩] X.env)).filterMap (·.1) = [Str.ofString "key"] := by rfl) :
    PE X (.Call (.Name "min" p) (e :: []) [⟨some (Str.ofString "key"), .Lambda params (.Subscript (.Name dn p1) (.Name pn p2) p3) scope lpos, kpos⟩] pos) (tMinD T j t) := by
  refine ⟨fun pins s σ H Q I h => ?_⟩
  refine wpAny_Call_Name_kw (ld_blt I hg hm (u := .builtin "min") (by decide +kernel) ?_)
  refine PyProof.Rows.callWith_kw (thn (pa.run pos pins s σ H _ I h) fun us s1 ⟨vs, H1, I1, r1, q1⟩ => ?_) hst hpl hall hnone
  obtain ⟨a, d, ns, kvs, rfl, hT, hj, ha, hdd, hne, hall2, q⟩ := q1
  rw [hks]
  show wpAny _ _ (evalAll ((do let v ← eval (.Lambda params (.Subscript (.Name dn p1) (.Name pn p2) p3) scope lpos) X.env; standAt pos; pure v) :: (backToKw pos (keywordEach [] X.env)).map (·.2))) _ _ s1
  have hfree : ∀ y ∈ scope.names, y.2 = .free → ∃ c, X.env.cells.lookup y.1 = some c := fun y hy e => by
    rw [S.one y hy e]
    exact I.ok.has dn (.inl S.has)
  refine wpAny_evalAll_cons (wpAny_bind (lam_make2 I1 TB hcode hmT hu hT hdef hfree fun f c' pm ctv H2 s2 I2 eN T2 hf hfn2 hfr hco => wpAny_bind (wpAny_standAt (wpAny_pure ?_))))
  refine wpAny_evalAll_nil ?_
  obtain rfl := Vals.ref1 r1
  have ha2 : H2 a = some (.lst (ns.map V.int)) := eN a _ ha (fun ps z => by cases z)
  have hd2' : H2 d = some (.dK kvs) := eN d _ hdd (fun ps z => by cases z)
  obtain ⟨its, rv, ⟨oL, nL, eL, cL, dL, sL⟩, hz⟩ := I2.list (SqL.of ha2)
  obtain ⟨m, hmL, hlook⟩ := _root_.id I2.loc
  have F0 : Fr X.base X.env.locals s2.heap m := ⟨hmL, I2.bk, Nat.le_trans I2.ok.bsz I2.ok.above⟩
  have nef : ∀ b o, s2.heap.get? b = some o → (∀ es ep, o.data ≠ .dict es ep) → b ≠ X.env.locals := fun b o e hdt z => by
    obtain ⟨o', es, ep, e', d', _⟩ := hmL
    rw [z, e'] at e
    cases e
    exact hdt _ _ d'
  have neH : ∀ b u, H2 b = some u → b ≠ X.env.locals := fun b u e z => by
    rw [z, I2.free] at e
    cases e
  -- the keys' works
  have at_ : ∀ (i : Nat) (v : Value), its[i]? = some v → ∃ (k : Int) (t : Tok) (x : Int), ns[i]? = some k ∧ v = .int k t ∧ valV kvs (Sum.inl k) = some (.int x) := fun i v hv => by
    have hl := rv.length
    rw [List.length_map] at hl
    have hi : i < ns.length := by
      have := (List.getElem?_eq_some_iff.mp hv).1
      omega
    obtain ⟨u, hu, ru⟩ := rv.get (i := i) (x := .int ns[i]) (by rw [List.getElem?_map, List.getElem?_eq_getElem hi] <;> rfl)
    rw [hv] at hu
    cases hu
    obtain ⟨t, rfl⟩ := ru
    obtain ⟨x, hx⟩ := hall2 ns[i] (List.getElem_mem hi)
    exact ⟨_, t, x, List.getElem?_eq_getElem hi, rfl, hx⟩
  obtain ⟨_, _, vs, rel, dd⟩ := dk_of I2.hok hd2'
  have mp := dd.mapOf
  obtain ⟨c0, hc0, hcell⟩ : ∃ c0, X.env.cells.lookup dn = some c0 ∧ s2.heap.IsCell c0 (some (.ref d)) := by
    obtain ⟨u, ru, l⟩ := hlook j dn (.ref d) hN hj (.inr (.inl S.has))
    obtain rfl : u = Value.ref d := ru
    rcases l with ⟨z, _⟩ | ⟨_, c0, h1, h2⟩
    · have z' : X.env.scope.names.lookup dn = some .local := z
      rw [S.has] at z'
      cases z'
    · exact ⟨c0, h1, h2⟩
  have hclo : (cloFrom X.env.cells scope.names []).lookup dn = some c0 := NdefX.clo_has hfree (PySem.mem_of_lookup S.dic) hc0
  obtain ⟨⟨oc, cvs, ct, hoc, hdc, hvc⟩, _, _⟩ := I2.hok c' _ hco
  let kf : Nat → Int := fun i => match ns[i]? with
    | some k => (match valV kvs (Sum.inl k) with
      | some (.int x) => x
      | _ => 0)
    | none => 0
  have kfe : ∀ i k x, ns[i]? = some k → valV kvs (Sum.inl k) = some (.int x) → kf i = x := fun i k x h1 h2 => by
    show (match ns[i]? with
    | some k => (match valV kvs (Sum.inl k) with
      | some (.int x) => x
      | _ => 0)
    | none => 0) = x
    rw [h1]
    show (match valV kvs (Sum.inl k) with
      | some (.int x) => x
      | _ => 0) = x
    rw [h2]
  show wpAny (model X.prog X.w) X.A (call (.builtin "min") [.ref a] [(Str.ofString "key", .ref f)]) _ _ _
  refine kmk_min kf (I2.ok.hd hcalm) F0 (news_all (g := X.base) (h := s2.heap) (L := X.env.locals)) (vs := its) (fun h F N => ?_) (by have := rv.length; rw [List.length_map] at this; omega) (fun i v hv h tk own F N => ?_) (fun i v h' tk' hv hmin F N => ?_)
  · have ps := persist (more := []) I2 F (by rw [List.append_nil]; exact N)
    exact PlainL.isList ⟨oL, nL, ps a oL (neH a _ ha2) eL, cL, dL, sL⟩
  · have ps := persist I2 F N
    obtain ⟨k, t, x, h1, rfl, h3⟩ := at_ i v hv
    obtain ⟨w', hw, rw'⟩ := RelO.some_of (v := .int x) (o := valueAt vs (Sum.inl k)) (by rw [← h3]; exact rel.val (Sum.inl k))
    obtain ⟨tx, rfl⟩ := rw'
    have mp2 : h.MapOf (mixKind X.prog X.w) d (valueAt vs) := by
      obtain ⟨o, es, ep, e, r⟩ := mp
      exact ⟨o, es, ep, ps d o (neH d _ hd2') e, r⟩
    have cell2 : h.IsCell c0 (some (.ref d)) := by
      obtain ⟨o, ho, hd⟩ := hcell
      exact ⟨o, ps c0 o (I2.cne dn c0 hc0) ho, hd⟩
    refine lam_run (s := { s2 with heap := h, toks := tk }) (fm := valueAt vs) S hd1 hd2 hd3 (ps f _ (nef f _ hf fun _ _ z => by cases z) hf) (by show X.A.depth < recursionLimit; omega) ⟨c', oc, cvs, ct, rfl, ps c' oc (neH c' _ hco) hoc, hdc, hvc⟩ (I2.mod.nolimit.keeps F.keep) (fun v => hbind _ _ _ _ _ v) hclo cell2 mp2 hw fun h' tk' kp => ?_
    refine ⟨h', tk', tx, rfl, by rw [kfe i k x h1 h3], ⟨F.ns.keeps kp, fun b o e => kp b o (F.keep b o e), F.above⟩, fun p hp => ⟨kp _ _ (N p hp).1, (N p hp).2⟩⟩
  · obtain ⟨k, t, x, h1, rfl, h3⟩ := at_ i v hv
    refine ⟨.int k, H2, inv_back I2 hmL F N, ⟨t, rfl⟩, q H2 k x eN T2 (List.mem_of_getElem? h1) h3 fun k' x' hk' hx' => ?_⟩
    obtain ⟨j', hj', ej⟩ := List.mem_iff_getElem.mp hk'
    have hlen : j' < its.length := by
      have := rv.length
      rw [List.length_map] at this
      omega
    have := (hmin j' hlen).1
    rw [kfe i k x h1 h3, kfe j' k' x' (by rw [List.getElem?_eq_getElem hj', ej]) hx'] at this
    exact this
end
end K38
/-! K38: the class Table, def by def. -/
namespace K38
open PySem PySem.Spec PyProof.Rows L2
/-! ### the text by places -/
def top (i : Nat) : Stmt := PySem.Challenge.pw_nolitter_k38_whole_none_is_cheaper.main.body.getD i (.Pass ⟨0, 0, 0, 0⟩)
abbrev sTInit : Stmt := inClass (top 1) 0
abbrev sLeast : Stmt := inClass (top 1) 1
abbrev sSought : Stmt := inClass (top 1) 2
abbrev sByCut : Stmt := inClass (top 1) 3
abbrev sBest : Stmt := inClass (top 1) 4
abbrev sReach : Stmt := top 2
abbrev sAloneReach : Stmt := top 3
abbrev sFarthest : Stmt := top 4
abbrev sAlone : Stmt := top 5
abbrev sReached : Stmt := top 6
/-! ### what a table looks like -/
def ofO : Option Int → V
  | none => .non
  | some x => .int x
theorem ofO_non {o : Option Int} : ofO o = .non ↔ o = none := by
  cases o with
  | none => simp [ofO]
  | some x => simp [ofO]
theorem flat_ofO (o : Option Int) : flatV (ofO o) = true := by cases o <;> rfl
theorem ck : ¬ (("costs" : Str) = "known") := by decide +kernel
def flds (l d : Addr) : List (Str × V) := putF "known" (.ref d) (putF "costs" (.ref l) [])
theorem flds_costs (l d : Addr) : (flds l d).lookup ("costs" : Str) = some (.ref l) := by
  unfold flds
  rw [lookup_putF, if_neg ck, lookup_putF, if_pos rfl]
theorem flds_known (l d : Addr) : (flds l d).lookup ("known" : Str) = some (.ref d) := by
  unfold flds
  rw [lookup_putF, if_pos rfl]
theorem flds_no (l d : Addr) {m : Str} (h1 : ¬ m = "costs") (h2 : ¬ m = "known") : (flds l d).lookup m = none := by
  unfold flds
  rw [lookup_putF, if_neg h2, lookup_putF, if_neg h1]
  all_goals rfl
/-- one entry of the memo is right -/
def GoodE (pr : List Int) (k : MK) (v : V) : Prop := ∃ (i j s : Nat) (al : Bool), k = ((i : Int), (j : Int), (s : Int), al) ∧ i < j ∧ j ≤ 7 ∧ s ≤ 7 ∧ v = ofO (T s (j - i) al (pr.drop i))
structure Good (pr : List Int) (ms : Ms) : Prop where
  nd : (ms.map (·.1)).Nodup
  all : ∀ m, m ∈ ms → GoodE pr m.1 m.2.2
def code (k : MK) : Nat := ((k.1.toNat * 8 + k.2.1.toNat) * 8 + k.2.2.1.toNat) * 2 + (if k.2.2.2 = true then 1 else 0)
theorem Good.len {pr : List Int} {ms : Ms} (g : Good pr ms) : ms.length ≤ 1024 := by
  have key : ∀ l : List MK, l.Nodup → (∀ k, k ∈ l → ∃ v, GoodE pr k v) → (l.map code).Nodup ∧ ∀ x, x ∈ l.map code → x < 1024 := by
    intro l
    induction l with
    | nil => intro _ _; exact ⟨by simp, fun x h => by cases h⟩
    | cons a r ih =>
      intro hn hg
      obtain ⟨n1, n2⟩ := List.nodup_cons.mp hn
      obtain ⟨h1, h2⟩ := ih n2 fun k hk => hg k (List.mem_cons_of_mem _ hk)
      obtain ⟨_, i, j, s, al, rfl, q1, q2, q3, _⟩ := hg a List.mem_cons_self
      constructor
      · refine List.nodup_cons.mpr ⟨fun hm => ?_, h1⟩
        obtain ⟨b, hb, e⟩ := List.mem_map.mp hm
        obtain ⟨_, i', j', s', al', rfl, p1, p2, p3, _⟩ := hg b (List.mem_cons_of_mem _ hb)
        apply n1
        have e2 : ((i' * 8 + j') * 8 + s') * 2 + (if al' = true then 1 else 0) = ((i * 8 + j) * 8 + s) * 2 + (if al = true then 1 else 0) := e
        have : al' = al := by
          cases al <;> cases al' <;> simp at e2 ⊢ <;> omega
        subst this
        have : i' = i ∧ j' = j ∧ s' = s := by
          cases al' <;> simp at e2 <;> omega
        obtain ⟨rfl, rfl, rfl⟩ := this
        exact hb
      · intro x hx
        rcases List.mem_cons.mp hx with e | e
        · have e2 : x = ((i * 8 + j) * 8 + s) * 2 + (if al = true then 1 else 0) := e
          cases al <;> simp at e2 <;> omega
        · exact h2 x e
  obtain ⟨h1, h2⟩ := key (ms.map (·.1)) g.nd fun k hk => by
    obtain ⟨m, hm, e⟩ := List.mem_map.mp hk
    exact ⟨_, by rw [← e]; exact g.all m hm⟩
  have h3 := nodup_le 1024 _ h1 h2
  rw [List.length_map, List.length_map] at h3
  exact h3
theorem Good.nil (pr : List Int) : Good pr [] := ⟨by simp, fun m h => by cases h⟩
theorem Good.store {pr : List Int} {ms : Ms} (g : Good pr ms) {k : MK} {b : Addr} {v : V} (h : GoodE pr k v) : Good pr (storeM ms k b v) := by
  refine ⟨?_, fun m hm => ?_⟩
  · rw [keys_store]
    split
    · exact g.nd
    · rename_i q
      have hk : valM ms k = none := by
        cases e : valM ms k with
        | none => rfl
        | some z => rw [e] at q; exact (q rfl).elim
      refine List.nodup_append.mpr ⟨g.nd, by simp, fun a ha b' hb => ?_⟩
      rw [List.mem_singleton.mp hb]
      intro e
      rw [e] at ha
      exact valM_none hk ha
  · rcases mem_store hm with ⟨e1, e2, _⟩ | h2
    · rw [e1, e2]
      exact h
    · exact g.all m h2
theorem Good.val {pr : List Int} {ms : Ms} (g : Good pr ms) {i j s : Nat} {al : Bool} {v : V} (h : valM ms ((i : Int), (j : Int), (s : Int), al) = some v) : v = ofO (T s (j - i) al (pr.drop i)) := by
  obtain ⟨m, hm, e1, e2⟩ := valM_mem h
  obtain ⟨i', j', s', al', e, _, _, _, ev⟩ := g.all m hm
  rw [e1] at e
  injection e with q1 e
  injection e with q2 e
  injection e with q3 q4
  have q1 : i = i' := Int.ofNat.inj q1
  have q2 : j = j' := Int.ofNat.inj q2
  have q3 : s = s' := Int.ofNat.inj q3
  subst q1 q2 q3 q4
  rw [← e2, ev]
theorem keys_nil (H : Hp) : Keys H [] := fun m h => nomatch h
structure TabAt (P : Program) (w : World) (C : Addr) (H : Hp) (p l d : Addr) (pr : List Int) : Prop where
  ob : ∃ dx, H p = some (.ins C dx (flds l d))
  ls : H l = some (.lst (pr.map V.int))
  me : ∃ ms, H d = some (MemoO P w d ms) ∧ Keys H ms ∧ Good pr ms
/-- all stays but what stands at d -/
def Kp (d : Addr) (H H' : Hp) : Prop := ∀ b o, H b = some o → b ≠ d → H' b = some o
theorem Kp.refl (d : Addr) (H : Hp) : Kp d H H := fun _ _ h _ => h
theorem Kp.trans {d : Addr} {H H1 H2 : Hp} (a : Kp d H H1) (b : Kp d H1 H2) : Kp d H H2 := fun c o h n => b c o (a c o h n) n
theorem Kp.new {d p : Addr} {H : Hp} {o : HO} (h : H p = none) : Kp d H (upd H p o) := fun b u e _ => by rw [upd_ne (ne_of_none e h)]; exact e
theorem Kp.upd (d : Addr) (H : Hp) (o : HO) : Kp d H (upd H d o) := fun b u e n => by rw [upd_ne n]; exact e
theorem memo_ne {P : Program} {w : World} {d : Addr} {ms : Ms} {o : HO} (h : ∀ φ, o ≠ .ext φ) : MemoO P w d ms ≠ o := fun e => h _ e.symm
theorem TabAt.new {P : Program} {w : World} {C : Addr} {H : Hp} {p l d q : Addr} {pr : List Int} {o : HO} (t : TabAt P w C H p l d pr) (h : H q = none) : TabAt P w C (upd H q o) p l d pr := by
  obtain ⟨⟨dx, h1⟩, h2, ms, h3, h4, h5⟩ := t
  exact ⟨⟨dx, by rw [upd_ne (ne_of_none h1 h)]; exact h1⟩, by rw [upd_ne (ne_of_none h2 h)]; exact h2, ms, by rw [upd_ne (ne_of_none h3 h)]; exact h3, fun m hm => by rw [upd_ne (ne_of_none (h4 m hm) h)]; exact h4 m hm, h5⟩
/-- an untouched table's part in a heap where all else than another thing stays -/
theorem TabAt.keep {P : Program} {w : World} {C : Addr} {H H' : Hp} {p l d : Addr} {pr : List Int} (t : TabAt P w C H p l d pr) (k : ∀ b o, H b = some o → H' b = some o) : TabAt P w C H' p l d pr := by
  obtain ⟨⟨dx, h1⟩, h2, ms, h3, h4, h5⟩ := t
  exact ⟨⟨dx, k _ _ h1⟩, k _ _ h2, ms, k _ _ h3, fun m hm => k _ _ (h4 m hm), h5⟩
theorem TabAt.pd {P : Program} {w : World} {C : Addr} {H : Hp} {p l d : Addr} {pr : List Int} (t : TabAt P w C H p l d pr) : p ≠ d ∧ l ≠ d := by
  obtain ⟨⟨dx, h1⟩, h2, ms, h3, _, _⟩ := t
  exact ⟨ne_of h1 h3 (fun e => memo_ne (fun φ z => by cases z) e.symm), ne_of h2 h3 (fun e => memo_ne (fun φ z => by cases z) e.symm)⟩
/-! ### the promises -/
def spTInit (P : Program) (w : World) (K : PySem.W.Frag) (C : Addr) : Sp := fun vs H Q _ => ∃ (p dx a : Addr) (pr : List Int), vs = [.ref p, .ref a] ∧ H p = some (.ins C dx []) ∧ SqL K H a (pr.map V.int) ∧
  ∀ (l d : Addr) (H' : Hp), H l = none → H d = none → TabAt P w C H' p l d pr → (∀ b o, H b = some o → b ≠ p → H' b = some o) → Q .non H'
def spLeast (P : Program) (w : World) (C : Addr) (D : Nat) : Sp := fun vs H Q _ => ∃ (p l d : Addr) (pr : List Int) (i j s : Nat) (al : Bool), vs = [.ref p, .int i, .int j, .int s, .bl al] ∧ TabAt P w C H p l d pr ∧ pr.length ≤ 7 ∧ NonNeg pr ∧ i < j ∧ j ≤ pr.length ∧ s ≤ 7 ∧ j - i ≤ D ∧
  ∀ H', Kp d H H' → TabAt P w C H' p l d pr → Q (ofO (T s (j - i) al (pr.drop i))) H'
def spByCut (P : Program) (w : World) (C : Addr) (D : Nat) : Sp := fun vs H Q _ => ∃ (p l d : Addr) (pr : List Int) (i j s m : Nat) (al : Bool), vs = [.ref p, .int i, .int j, .int s, .bl al, .int m] ∧ TabAt P w C H p l d pr ∧ pr.length ≤ 7 ∧ NonNeg pr ∧ i < m ∧ m < j ∧ j ≤ pr.length ∧ 1 ≤ s ∧ s ≤ 7 ∧ j - i ≤ D ∧
  ∀ H', Kp d H H' → TabAt P w C H' p l d pr → Q (ofO (byc s (j - i) al (pr.drop i) (m - i))) H'
def spBest (P : Program) (w : World) (C : Addr) (D : Nat) : Sp := fun vs H Q _ => ∃ (p l d : Addr) (pr : List Int) (i j s : Nat) (al : Bool), vs = [.ref p, .int i, .int j, .int s, .bl al] ∧ TabAt P w C H p l d pr ∧ pr.length ≤ 7 ∧ NonNeg pr ∧ i < j ∧ j ≤ pr.length ∧ s ≤ 7 ∧ j - i ≤ D ∧ (2 ≤ j - i ∨ s = 0) ∧
  ∀ H', Kp d H H' → TabAt P w C H' p l d pr → (T s (j - i) al (pr.drop i) = none → Q .non H') ∧ (∀ (m : Nat) (x : Int), i < m → m < j → 1 ≤ s → T s (j - i) al (pr.drop i) = some x → byc s (j - i) al (pr.drop i) (m - i) = some x → Q (.int m) H')
def spNat1 (f : Nat → Nat) : Sp := fun vs H Q _ => ∃ s : Nat, vs = [.int s] ∧ s ≤ 7 ∧ Q (.int (f s : Nat)) H
def spFar : Sp := fun vs H Q _ => ∃ (s : Nat) (al : Bool), vs = [.int s, .bl al] ∧ s ≤ 7 ∧ Q (.int (farthest s al : Nat)) H
def spValue (K : PySem.W.Frag) (al : Bool) : Sp := fun vs H Q _ => ∃ (a : Addr) (pr : List Int) (s : Nat), vs = [.ref a, .int s] ∧ SqL K H a (pr.map V.int) ∧ 1 ≤ pr.length ∧ pr.length ≤ 7 ∧ NonNeg pr ∧ s ≤ 7 ∧
  ∀ H', Same H H' → Q (ofO (T s pr.length al pr)) H'
/-- what the walk asks of the class as the top has made it -/
structure TxT (K : PySem.W.Frag) (mg : Str → Option Value) (C fL fS fB fC : Addr) : Prop where
  cl : Cls K C
  nC : NoAttr K C "costs"
  nK : NoAttr K C "known"
  mgC : mg "Table" = some (.ref C)
  mL : Meth K C "least" fL
  mS : Meth K C "sought" fS
  mB : Meth K C "by_cut" fB
  mC : Meth K C "best_cut" fC
  list : mg "list" = none
  sum : mg "sum" = none
  range : mg "range" = none
  len : mg "len" = none
section
variable {P : Program} {w : World} {K : PySem.W.Frag} {mg : Str → Option Value} {base : Heap}
theorem scTInit : FnScope ["self", "costs"] ["self", "costs"] (defScope sTInit) := ⟨rfl, rfl, rfl, by decide +kernel, rfl, by decide +kernel, by decide +kernel⟩
theorem ok_tinit {f C fL fS fB fC : Addr} {fd : FuncData} (F : Fun K "__init__" "Table.__init__" sTInit f fd) (X : TxT K mg C fL fS fB fC) : FnOk P w K mg base CX0 1 f fd ["self", "costs"] (spTInit P w K C) := by
  refine F.ok scTInit (fun vs H Q E h => ?_) (fun cdv A outer s H vs Q E hr h => ?_)
  · obtain ⟨p, dx, a, pr, rfl, _⟩ := h
    rfl
  obtain ⟨p, dx, a, pr, rfl, hp, hS, q⟩ := h
  refine ⟨_, pss_cons (ps_fld (pv 0) (pe_callTy call_list_of (by rfl) X.list (by decide +kernel) (pa_cons (pv 1) pa_nil)) rfl) (pss_one (ps_fld (pv 0) pe_dnewM rfl)), ?_⟩
  refine ⟨_, rfl, a, _, rfl, .inl hS, fun l hl => ?_⟩
  have npl : p ≠ l := ne_of_none hp hl
  refine ⟨_, rfl, p, C, dx, [], rfl, (by rw [upd_ne npl]; exact hp), X.cl, X.nC, (by show 0 < 1000; decide), ?_⟩
  intro d hd
  have ndp : d ≠ p := fun e => by rw [e, upd_same] at hd; cases hd
  have ndl : d ≠ l := fun e => by rw [e, upd_ne npl.symm, upd_same] at hd; cases hd
  have hd0 : H d = none := by rw [upd_ne ndp, upd_ne ndl] at hd; exact hd
  refine ⟨_, rfl, p, C, dx, _, rfl, (by rw [upd_ne ndp.symm]; exact upd_same), X.cl, X.nK, (by show 1 < 1000; decide), ?_⟩
  refine q l d _ hl hd0 ⟨⟨dx, upd_same⟩, ?_, [], ?_, keys_nil _, Good.nil pr⟩ fun b o e hb => ?_
  · rw [upd_ne npl.symm, upd_ne ndl.symm, upd_ne npl.symm, upd_same]
  · rw [upd_ne ndp, upd_same]
    all_goals rfl
  · rw [upd_ne hb, upd_ne (ne_of_none e hd0), upd_ne hb, upd_ne (ne_of_none e hl)]
    exact e
theorem scReach : FnScope ["s"] ["s"] (defScope sReach) := ⟨rfl, rfl, rfl, by decide +kernel, rfl, by decide +kernel, by decide +kernel⟩
theorem ok_reach {f : Addr} {fd : FuncData} (F : Fun K "reach" "reach" sReach f fd) : FnOk P w K mg base CX0 1 f fd ["s"] (spNat1 fun s => 2 ^ s - 1) := by
  refine F.ok scReach (fun vs H Q E h => ?_) (fun cdv A outer s H vs Q E hr h => ?_)
  · obtain ⟨n, rfl, _⟩ := h
    rfl
  obtain ⟨n, rfl, hn, q⟩ := h
  refine ⟨_, pss_one (ps_ret (pe_op op_sub (pe_op op_oneShl pe_int (pv 0)) pe_int)), ?_⟩
  refine ⟨_, rfl, n, rfl, rfl, by omega, _, _, rfl, rfl, ?_⟩
  have e : V.int ((2 : Int) ^ n - 1) = V.int ((2 ^ n - 1 : Nat) : Int) := by
    have := Nat.one_le_two_pow (n := n)
    rw [Int.natCast_sub this, Int.natCast_pow] <;> rfl
  exact (congrArg (fun v => Q v H) e).mpr q
theorem scAR : FnScope ["s"] ["s"] (defScope sAloneReach) := ⟨rfl, rfl, rfl, by decide +kernel, rfl, by decide +kernel, by decide +kernel⟩
theorem ok_alone_reach {f g : Addr} {fd gd : FuncData} (F : Fun K "alone_reach" "alone_reach" sAloneReach f fd) (G : FnOk P w K mg base CX0 1 g gd ["s"] (spNat1 fun s => 2 ^ s - 1)) (bG : Binds K gd ["s"] []) (kG : PySem.W.keepIn K (.ref g) = true) (mG : mg "reach" = some (.ref g)) :
    FnOk P w K mg base CX0 2 f fd ["s"] (spNat1 fun s => (2 ^ s - 1) - (2 ^ s - 1) / 2) := by
  refine F.ok scAR (fun vs H Q E h => ?_) (fun cdv A outer s H vs Q E hr h => ?_)
  · obtain ⟨n, rfl, _⟩ := h
    rfl
  obtain ⟨n, rfl, hn, q⟩ := h
  refine ⟨_, pss_one (ps_ret (pe_op op_sub (pe_call G hr rfl mG kG bG .nil pass0 (pa_cons (pv 0) pa_nil)) (pe_op op_fdivNN (pe_call G hr rfl mG kG bG .nil pass0 (pa_cons (pv 0) pa_nil)) pe_int))), ?_⟩
  refine ⟨_, rfl, n, rfl, hn, _, rfl, n, rfl, hn, 2 ^ n - 1, 2, rfl, rfl, ⟨by decide, by decide⟩, _, _, rfl, rfl, ?_⟩
  have e : V.int (((2 ^ n - 1 : Nat) : Int) - (((2 ^ n - 1) / 2 : Nat) : Int)) = V.int (((2 ^ n - 1) - (2 ^ n - 1) / 2 : Nat) : Int) := by
    rw [Int.natCast_sub (Nat.div_le_self _ _)]
  exact (congrArg (fun v => Q v H) e).mpr q
theorem scFar : FnScope ["s", "is_alone"] ["s", "is_alone"] (defScope sFarthest) := ⟨rfl, rfl, rfl, by decide +kernel, rfl, by decide +kernel, by decide +kernel⟩
theorem ok_farthest {f g h : Addr} {fd gd hd : FuncData} (F : Fun K "farthest" "farthest" sFarthest f fd) (G : FnOk P w K mg base CX0 1 g gd ["s"] (spNat1 fun s => 2 ^ s - 1)) (bG : Binds K gd ["s"] []) (kG : PySem.W.keepIn K (.ref g) = true) (mG : mg "reach" = some (.ref g))
    (G2 : FnOk P w K mg base CX0 2 h hd ["s"] (spNat1 fun s => (2 ^ s - 1) - (2 ^ s - 1) / 2)) (bG2 : Binds K hd ["s"] []) (kG2 : PySem.W.keepIn K (.ref h) = true) (mG2 : mg "alone_reach" = some (.ref h)) : FnOk P w K mg base CX0 3 f fd ["s", "is_alone"] spFar := by
  refine F.ok scFar (fun vs H Q E h => ?_) (fun cdv A outer s H vs Q E hr h => ?_)
  · obtain ⟨n, al, rfl, _⟩ := h
    rfl
  obtain ⟨n, al, rfl, hn, q⟩ := h
  refine ⟨_, pss_cons (ps_if (pt_val (pv 1)) (pss_one (ps_ret (pe_call G2 hr rfl mG2 kG2 bG2 .nil pass0 (pa_cons (pv 0) pa_nil)))) pss_nil)
    (pss_one (ps_ret (pe_call G (hr.mono (by decide)) rfl mG kG bG .nil pass0 (pa_cons (pv 0) pa_nil)))), ?_⟩
  refine ⟨_, rfl, _, rfl, ?_⟩
  cases al with
  | true => exact iteT ⟨_, rfl, n, rfl, hn, q⟩
  | false => exact iteF ⟨_, rfl, n, rfl, hn, q⟩
end
end K38
/-! K38: the recursion of Table. -/
namespace K38
open PySem PySem.Spec PyProof.Rows L2
theorem room_of {k : Nat} {A : Around} (hr : Room k A) : A.units + 64 < cLine := hr.units
theorem inV_two (a b : Option Int) : inV V.non [ofO a, ofO b] = true ↔ (a = none ∨ b = none) := by
  cases a <;> cases b <;> simp [inV, ofO, eqV]
theorem inV_three (a b c : Option Int) : inV V.non [ofO a, ofO b, ofO c] = true ↔ (a = none ∨ b = none ∨ c = none) := by
  cases a <;> cases b <;> cases c <;> simp [inV, ofO, eqV]
theorem byc_true (s d : Nat) (q : List Int) (e : Nat) : byc s d true q e = add2 (add2 (T s e true q) (T (s - 1) (d - e) true (q.drop e))) (T (s - 1) e true q) := rfl
theorem byc_false (s d : Nat) (q : List Int) (e : Nat) : byc s d false q e = add2 (add2 (T s e true q) (T (s - 1) (d - e) false (q.drop e))) (some 0) := rfl
section
variable {P : Program} {w : World} {K : PySem.W.Frag} {mg : Str → Option Value} {base : Heap}
abbrev psT : List Str := ["self", "first", "last", "s", "is_alone"]
abbrev psB : List Str := ["self", "first", "last", "s", "is_alone", "m"]
theorem scByCut : FnScope ["self", "first", "last", "s", "is_alone", "m", "parts"] psB (defScope sByCut) := ⟨rfl, rfl, rfl, by decide +kernel, rfl, by decide +kernel, by decide +kernel⟩
theorem ok_bycut {k D : Nat} {f C fL fS fB fC : Addr} {fd fdL : FuncData} (F : Fun K "by_cut" "Table.by_cut" sByCut f fd) (X : TxT K mg C fL fS fB fC) (G : FnOk P w K mg base CX0 k fL fdL psT (spLeast P w C D)) (bL : Binds K fdL psT []) :
    FnOk P w K mg base CX0 (k + 1) f fd psB (spByCut P w C (D + 1)) := by
  refine F.ok scByCut (fun vs H Q E h => ?_) (fun cdv A outer s0 H vs Q E hr h => ?_)
  · obtain ⟨p, l, d, pr, i, j, s, m, al, rfl, _⟩ := h
    rfl
  obtain ⟨p, l, d, pr, i, j, s, m, al, rfl, t, h7, nn, him, hmj, hj, hs1, hs7, hD, q⟩ := h
  refine ⟨_, pss_cons (ps_set (i := 6) scByCut.nd rfl (Or.inl rfl) (pe_lst (pa_cons (pe_meth (pv 0) X.cl X.mL G hr bL .nil pass0 (pa_cons (pv 1) (pa_cons (pv 5) (pa_cons (pv 3) (pa_cons pe_bl pa_nil)))))
      (pa_cons (pe_meth (pv 0) X.cl X.mL G hr bL .nil pass0 (pa_cons (pv 5) (pa_cons (pv 2) (pa_cons (pe_op op_sub (pv 3) pe_int) (pa_cons (pv 4) pa_nil))))) pa_nil))))
    (pss_cons (ps_if (pt_val (pv 4)) (pss_one (ps_expr (pe_bm PySem.F.plainAttrs_list PySem.F.slot_list_append PySem.F.type_list_append mt_append (pv 6)
        (pa_cons (pe_meth (pv 0) X.cl X.mL G hr bL .nil pass0 (pa_cons (pv 1) (pa_cons (pv 5) (pa_cons (pe_op op_sub (pv 3) pe_int) (pa_cons pe_bl pa_nil))))) pa_nil)))) pss_nil)
    (pss_cons (ps_if (pt_cmpR op_in_seq pe_non (pv 6) rfl) (pss_one (ps_ret pe_non)) pss_nil)
    (pss_one (ps_ret (pe_callB (cr_sum rfl) (by rfl) X.sum (by decide +kernel) (pa_cons (pv 6) pa_nil)))))), ?_⟩
  obtain ⟨⟨dx, hp⟩, _⟩ := id t
  have es : V.int ((s : Int) - 1) = V.int ((s - 1 : Nat) : Int) := congrArg V.int (by omega)
  refine ⟨_, rfl, p, dx, _, rfl, hp, flds_no _ _ (by decide +kernel) (by decide +kernel), _, rfl, _, rfl, _, rfl, p, l, d, pr, i, m, s, true, rfl, t, h7, nn, him, by omega, hs7, by omega, fun H1 k1 t1 => ?_⟩
  obtain ⟨⟨dx1, hp1⟩, _⟩ := id t1
  refine ⟨_, rfl, p, dx1, _, rfl, hp1, flds_no _ _ (by decide +kernel) (by decide +kernel), _, rfl, _, rfl, _, rfl, _, _, rfl, rfl, _, rfl, ?_⟩
  refine ⟨p, l, d, pr, m, j, s - 1, al, congrArg (fun z => [V.ref p, V.int m, V.int j, z, V.bl al]) es, t1, h7, nn, hmj, hj, by omega, by omega, fun H2 k2 t2 => ?_⟩
  refine ⟨by show 2 ≤ sizeLine; decide, fun pt hpt => ?_⟩
  have t3 := t2.new (o := .lst [ofO (T s (m - i) true (pr.drop i)), ofO (T (s - 1) (j - m) al (pr.drop m))]) hpt
  have k3 : Kp d H (upd H2 pt (.lst [ofO (T s (m - i) true (pr.drop i)), ofO (T (s - 1) (j - m) al (pr.drop m))])) := (k1.trans k2).trans (Kp.new hpt)
  have e1 : (pr.drop i).drop (m - i) = pr.drop m := by rw [List.drop_drop]; congr 1; omega
  have e2 : j - i - (m - i) = j - m := by omega
  have hpd : pt ≠ d := by
    obtain ⟨_, _, ms, h3, _⟩ := t2
    exact fun e => by rw [e, h3] at hpt; cases hpt
  refine ⟨_, rfl, _, rfl, ?_⟩
  cases al with
  | false =>
    refine iteF ?_
    refine ⟨_, rfl, pt, _, rfl, .inl (SqL.of upd_same), rfl, by simp [flat_ofO], _, rfl, ?_⟩
    refine ite2 (fun c => ?_) (fun c => ?_)
    · have hn := (inV_two _ _).mp c
      have eb : byc s (j - i) false (pr.drop i) (m - i) = none := by
        rw [byc_false, e1, e2]
        rcases hn with h | h
        · rw [h] <;> rfl
        · rw [h]
          cases T s (m - i) true (pr.drop i) <;> rfl
      have q1 := q _ k3 t3
      rw [eb] at q1
      exact q1
    · have hn : ¬ (T s (m - i) true (pr.drop i) = none ∨ T (s - 1) (j - m) false (pr.drop m) = none) := fun z => c ((inV_two _ _).mpr z)
      cases ea : T s (m - i) true (pr.drop i) with
      | none => exact absurd (.inl ea) hn
      | some x =>
        cases eb : T (s - 1) (j - m) false (pr.drop m) with
        | none => exact absurd (.inr eb) hn
        | some y =>
          rw [ea, eb] at k3 t3
          refine ⟨_, rfl, pt, [x, y], rfl, SqL.of upd_same, ?_⟩
          have eb2 : byc s (j - i) false (pr.drop i) (m - i) = some ([x, y] : List Int).sum := by
            rw [byc_false, e1, e2, ea, eb]
            show some (x + y + 0) = some (x + (y + 0))
            congr 1
            omega
          have q1 := q _ k3 t3
          rw [eb2] at q1
          exact q1
  | true =>
    refine iteT ?_
    obtain ⟨⟨dx3, hp3⟩, _⟩ := id t3
    refine ⟨_, rfl, .inl ⟨rfl, _, SqL.of upd_same⟩, _, rfl, p, dx3, _, rfl, hp3, flds_no _ _ (by decide +kernel) (by decide +kernel), _, rfl, _, rfl, _, rfl, _, _, rfl, rfl, ?_⟩
    refine ⟨p, l, d, pr, i, m, s - 1, true, congrArg (fun z => [V.ref p, V.int i, V.int m, z, V.bl true]) es, t3, h7, nn, him, by omega, by omega, by omega, fun H4 k4 t4 => ?_⟩
    have hpt4 : H4 pt = some (.lst [ofO (T s (m - i) true (pr.drop i)), ofO (T (s - 1) (j - m) true (pr.drop m))]) := k4 _ _ upd_same hpd
    refine ⟨pt, _, _, rfl, rfl, hpt4, by show 2 < sizeLine; decide, ?_⟩
    have npp : p ≠ pt := by
      obtain ⟨⟨dx4, hp4⟩, _⟩ := t4
      exact ne_of hp4 hpt4 (fun z => by cases z)
    have npl : l ≠ pt := fun z => by
      obtain ⟨_, hl2, _⟩ := t2
      rw [z, hpt] at hl2
      cases hl2
    have t5 : TabAt P w C (upd H4 pt (.lst ([ofO (T s (m - i) true (pr.drop i)), ofO (T (s - 1) (j - m) true (pr.drop m))] ++ [ofO (T (s - 1) (m - i) true (pr.drop i))]))) p l d pr := by
      obtain ⟨⟨dx4, h1⟩, h2, ms, h3, h4, h5⟩ := t4
      exact ⟨⟨dx4, by rw [upd_ne npp]; exact h1⟩, by rw [upd_ne npl]; exact h2, ms, by rw [upd_ne hpd.symm]; exact h3, fun m hm => by rw [upd_ne (ne_of (h4 m hm) hpt4 (fun z => by cases z))]; exact h4 m hm, h5⟩
    have k5 : Kp d H (upd H4 pt (.lst ([ofO (T s (m - i) true (pr.drop i)), ofO (T (s - 1) (j - m) true (pr.drop m))] ++ [ofO (T (s - 1) (m - i) true (pr.drop i))]))) := fun b u e n => by
      have nb : b ≠ pt := fun z => by
        have := (k1.trans k2) b u e n
        rw [z, hpt] at this
        cases this
      rw [upd_ne nb]
      exact k4 b u (k3 b u e n) n
    refine ⟨_, rfl, pt, _, rfl, .inl (SqL.of upd_same), rfl, by simp [flat_ofO], _, rfl, ?_⟩
    refine ite2 (fun c => ?_) (fun c => ?_)
    · have hn := (inV_three _ _ _).mp c
      have eb : byc s (j - i) true (pr.drop i) (m - i) = none := by
        rw [byc_true, e1, e2]
        rcases hn with h | h | h
        · rw [h] <;> rfl
        · rw [h]
          cases T s (m - i) true (pr.drop i) <;> rfl
        · rw [h]
          cases T s (m - i) true (pr.drop i) <;> cases T (s - 1) (j - m) true (pr.drop m) <;> rfl
      have q1 := q _ k5 t5
      rw [eb] at q1
      exact q1
    · have hn : ¬ (T s (m - i) true (pr.drop i) = none ∨ T (s - 1) (j - m) true (pr.drop m) = none ∨ T (s - 1) (m - i) true (pr.drop i) = none) := fun z => c ((inV_three _ _ _).mpr z)
      cases ea : T s (m - i) true (pr.drop i) with
      | none => exact absurd (.inl ea) hn
      | some x =>
        cases eb : T (s - 1) (j - m) true (pr.drop m) with
        | none => exact absurd (.inr (.inl eb)) hn
        | some y =>
          cases ec : T (s - 1) (m - i) true (pr.drop i) with
          | none => exact absurd (.inr (.inr ec)) hn
          | some z =>
            rw [ea, eb, ec] at k5 t5
            refine ⟨_, rfl, pt, [x, y, z], rfl, SqL.of upd_same, ?_⟩
            have eb2 : byc s (j - i) true (pr.drop i) (m - i) = some ([x, y, z] : List Int).sum := by
              rw [byc_true, e1, e2, ea, eb, ec]
              show some (x + y + z) = some (x + (y + (z + 0)))
              congr 1
              omega
            have q1 := q _ k5 t5
            rw [eb2] at q1
            exact q1
theorem scBest : FnScope ["self", "first", "last", "s", "is_alone", "best", "least", "m", "whole"] psT (defScope sBest) := ⟨rfl, rfl, rfl, by decide +kernel, rfl, by decide +kernel, by decide +kernel⟩
/-- what the search knows ahead of the cut i + 1 + n -/
def Bst (s d : Nat) (al : Bool) (q : List Int) (i n : Nat) (b l : V) : Prop :=
  (b = .non ∧ l = .non ∧ ∀ e, 1 ≤ e → e ≤ n → byc s d al q e = none) ∨
  ∃ (e0 : Nat) (x0 : Int), b = .int ((i + e0 : Nat) : Int) ∧ l = .int x0 ∧ 1 ≤ e0 ∧ e0 ≤ n ∧ byc s d al q e0 = some x0 ∧ ∀ e y, 1 ≤ e → e ≤ n → byc s d al q e = some y → x0 ≤ y
theorem ok_best {k D : Nat} {f g C fL fS fB fC : Addr} {fd gd fdB : FuncData} (F : Fun K "best_cut" "Table.best_cut" sBest f fd) (X : TxT K mg C fL fS fB fC) (G : FnOk P w K mg base CX0 k fB fdB psB (spByCut P w C D)) (bB : Binds K fdB psB [])
    (GF : FnOk P w K mg base CX0 3 g gd ["s", "is_alone"] spFar) (bF : Binds K gd ["s", "is_alone"] []) (kF : PySem.W.keepIn K (.ref g) = true) (mF : mg "farthest" = some (.ref g)) (h3 : 3 ≤ k) :
    FnOk P w K mg base CX0 (k + 1) f fd psT (spBest P w C D) := by
  refine F.ok scBest (fun vs H Q E h => ?_) (fun cdv A outer s0 H vs Q E hr h => ?_)
  · obtain ⟨p, l, d, pr, i, j, s, al, rfl, _⟩ := h
    rfl
  obtain ⟨p, l, d, pr, i, j, s, al, rfl, t, h7, nn, hij, hj, hs7, hD, h2, q⟩ := h
  refine ⟨_, pss_cons (ps_if (pt_cmpR op_gt (pe_op op_sub (pv 2) (pv 1)) (pe_call GF (hr.mono h3) rfl mF kF bF .nil pass0 (pa_cons (pv 3) (pa_cons (pv 4) pa_nil))) (nomark _)) (pss_one (ps_ret pe_non)) pss_nil)
    (pss_cons (ps_set (i := 5) scBest.nd rfl (Or.inl rfl) pe_non)
    (pss_cons (ps_set (i := 6) scBest.nd rfl (Or.inl rfl) pe_non)
    (pss_cons (ps_for PassesOwn.never rfl (pi_range2 (by rfl) X.range (pa_cons (pe_op op_add (pv 1) pe_int) (pa_cons (pv 2) pa_nil))) (pg_name (i := 7) scBest.nd rfl (Or.inl rfl))
      (pss_cons (ps_set (i := 8) scBest.nd rfl (Or.inl rfl) (pe_meth (pv 0) X.cl X.mB G hr bB .nil pass0 (pa_cons (pv 1) (pa_cons (pv 2) (pa_cons (pv 3) (pa_cons (pv 4) (pa_cons (pv 7) pa_nil)))))))
      (pss_one (ps_if (PW.pt (pw_and (pt_cmpR op_notN (pv 8) pe_non (nomark _)) (pw_and1 (PW.pt (pw_or (pt_cmpR op_isN (pv 6) pe_non (nomark _)) (pw_or1 (pt_cmpR op_lt (pv 8) (pv 6) (nomark _))))))))
        (pss_cons (ps_set (i := 5) scBest.nd rfl (Or.inl rfl) (pv 7)) (pss_one (ps_set (i := 6) scBest.nd rfl (Or.inl rfl) (pv 8)))) pss_nil))))
    (pss_one (ps_ret (pv 5)))))), ?_⟩
  have nnd : NonNeg (pr.drop i) := nn.drop i
  have hij2 : ((j : Int) - (i : Int)) = ((j - i : Nat) : Int) := by omega
  refine ⟨_, rfl, _, rfl, _, _, rfl, rfl, _, rfl, _, rfl, s, al, rfl, hs7, _, _, rfl, rfl, _, rfl, ?_⟩
  refine ite2 (fun c => ?_) (fun c => ?_)
  · have c' : ((farthest s al : Nat) : Int) < (j : Int) - (i : Int) := of_decide_eq_true c
    have e := T_far (s := s) (d := j - i) (al := al) (q := pr.drop i) (by omega) (by omega) (by omega) (by omega)
    exact (q H (Kp.refl d H) t).1 e
  have c' : ¬ ((farthest s al : Nat) : Int) < (j : Int) - (i : Int) := of_decide_eq_false (Bool.eq_false_iff.mpr c)
  have hs1 : 1 ≤ s := by
    by_cases hs0 : s = 0
    · exfalso
      subst hs0
      have : farthest 0 al = 0 := by cases al <;> rfl
      rw [this] at c'
      omega
    · omega
  have h2' : 2 ≤ j - i := h2.elim id fun z => absurd z (by omega)
  have hcut := T_cut (s := s) (d := j - i) (al := al) (q := pr.drop i) (by omega) (by omega) h2' (by omega) nnd
  refine ⟨_, rfl, _, _, rfl, rfl, _, rfl, (i : Int) + 1, (j : Int), rfl, ⟨by omega, by omega, by omega, by omega⟩, for_range (lo := (i : Int) + 1) (n := ((j : Int) - ((i : Int) + 1)).toNat)
    (fun n σ H1 => ∃ b l' mv wv, σ = [some (.ref p), some (.int i), some (.int j), some (.int s), some (.bl al), some b, some l', mv, wv] ∧ Kp d H H1 ∧ TabAt P w C H1 p l d pr ∧ Bst s (j - i) al (pr.drop i) i n b l')
    ⟨_, _, none, none, rfl, Kp.refl d H, t, .inl ⟨rfl, rfl, fun e h1 h2 => by omega⟩⟩ ?_ ?_⟩
  · rintro n σ H1 hn ⟨b, l', mv, wv, rfl, k1, t1, hb⟩
    have hm : V.int ((i : Int) + 1 + (n : Int)) = V.int ((i + 1 + n : Nat) : Int) := congrArg V.int (by omega)
    obtain ⟨⟨dx1, hp1⟩, _⟩ := id t1
    refine ⟨_, rfl, p, dx1, _, rfl, hp1, flds_no _ _ (by decide +kernel) (by decide +kernel), _, rfl, _, rfl, _, rfl, _, rfl, _, rfl, ?_⟩
    refine ⟨p, l, d, pr, i, j, s, i + 1 + n, al, congrArg (fun z => [V.ref p, V.int i, V.int j, V.int s, V.bl al, z]) hm, t1, h7, nn, by omega, by omega, hj, hs1, hs7, hD, fun H2 k2 t2 => ?_⟩
    have ee : i + 1 + n - i = n + 1 := by omega
    rw [ee]
    have k12 := k1.trans k2
    refine ⟨_, rfl, rfl, _, rfl, ?_⟩
    cases ew : byc s (j - i) al (pr.drop i) (n + 1) with
    | none =>
      refine iteF (iteF ?_)
      refine ⟨b, l', _, _, rfl, k12, t2, ?_⟩
      rcases hb with ⟨rfl, rfl, h⟩ | ⟨e0, x0, rfl, rfl, g1, g2, g3, g4⟩
      · refine .inl ⟨rfl, rfl, fun e h1 h2 => ?_⟩
        by_cases z : e = n + 1
        · rw [z]; exact ew
        · exact h e h1 (by omega)
      · refine .inr ⟨e0, x0, rfl, rfl, g1, by omega, g3, fun e y h1 h2 h3 => ?_⟩
        by_cases z : e = n + 1
        · rw [z, ew] at h3; cases h3
        · exact g4 e y h1 (by omega) h3
    | some x =>
      refine iteT ?_
      refine ⟨_, rfl, rfl, _, rfl, ?_⟩
      rcases hb with ⟨rfl, rfl, h⟩ | ⟨e0, x0, rfl, rfl, g1, g2, g3, g4⟩
      · refine iteT (iteT ?_)
        refine ⟨_, rfl, _, rfl, ?_⟩
        refine ⟨_, _, _, _, rfl, k12, t2, .inr ⟨n + 1, x, ?_, rfl, by omega, Nat.le_refl _, ew, fun e y h1 h2 h3 => ?_⟩⟩
        · show V.int ((i : Int) + 1 + (n : Int)) = V.int ((i + (n + 1) : Nat) : Int)
          congr 1
          omega
        · by_cases z : e = n + 1
          · rw [z, ew] at h3
            have := Option.some.inj h3
            omega
          · rw [h e h1 (by omega)] at h3
            cases h3
      · refine iteF ?_
        refine ⟨_, rfl, _, rfl, _, _, rfl, rfl, _, rfl, ?_⟩
        refine ite2 (fun c => ?_) (fun c => ?_)
        · have c2 : x < x0 := of_decide_eq_true c
          refine ⟨_, rfl, _, rfl, ?_⟩
          refine ⟨_, _, _, _, rfl, k12, t2, .inr ⟨n + 1, x, ?_, rfl, by omega, Nat.le_refl _, ew, fun e y h1 h2 h3 => ?_⟩⟩
          · show V.int ((i : Int) + 1 + (n : Int)) = V.int ((i + (n + 1) : Nat) : Int)
            congr 1
            omega
          · by_cases z : e = n + 1
            · rw [z, ew] at h3
              have := Option.some.inj h3
              omega
            · have := g4 e y h1 (by omega) h3
              omega
        · have c2 : ¬ x < x0 := of_decide_eq_false (Bool.eq_false_iff.mpr c)
          refine ⟨_, _, _, _, rfl, k12, t2, .inr ⟨e0, x0, rfl, rfl, g1, by omega, g3, fun e y h1 h2 h3 => ?_⟩⟩
          by_cases z : e = n + 1
          · rw [z, ew] at h3
            have := Option.some.inj h3
            omega
          · exact g4 e y h1 (by omega) h3
  · rintro σ H1 ⟨b, l', mv, wv, rfl, k1, t1, hb⟩
    refine ⟨_, rfl, ?_⟩
    obtain ⟨q1, q2⟩ := q H1 k1 t1
    rcases hb with ⟨rfl, rfl, h⟩ | ⟨e0, x0, rfl, rfl, g1, g2, g3, g4⟩
    · cases eT : T s (j - i) al (pr.drop i) with
      | none => exact q1 eT
      | some x =>
        rw [eT] at hcut
        obtain ⟨⟨e, he, hx⟩, _⟩ := hcut
        have he' := mem_inside.mp he
        rw [h e he'.1 (by omega)] at hx
        cases hx
    · cases eT : T s (j - i) al (pr.drop i) with
      | none =>
        rw [eT] at hcut
        have := hcut e0 (mem_inside.mpr ⟨by omega, by omega⟩)
        rw [g3] at this
        cases this
      | some x =>
        rw [eT] at hcut
        obtain ⟨⟨e, he, hx⟩, hlow⟩ := hcut
        have he' := mem_inside.mp he
        have a1 := g4 e x he'.1 (by omega) hx
        have a2 := hlow e0 x0 (mem_inside.mpr ⟨by omega, by omega⟩) g3
        have ex : x0 = x := by omega
        have ei : i + e0 - i = e0 := by omega
        exact q2 (i + e0) x (by omega) (by omega) hs1 eT (by rw [ei, g3, ex])
end
end K38
/-! K38: least and its recursion; alone, reached. -/
namespace K38
open PySem PySem.Spec PyProof.Rows L2
def spSought (P : Program) (w : World) (C : Addr) (D : Nat) : Sp := spLeast P w C D
section
variable {P : Program} {w : World} {K : PySem.W.Frag} {mg : Str → Option Value} {base : Heap}
theorem scSought : FnScope ["self", "first", "last", "s", "is_alone", "m"] psT (defScope sSought) := ⟨rfl, rfl, rfl, by decide +kernel, rfl, by decide +kernel, by decide +kernel⟩
theorem ok_sought {k D : Nat} {f C fL fS fB fC : Addr} {fd fdB fdC : FuncData} (F : Fun K "sought" "Table.sought" sSought f fd) (X : TxT K mg C fL fS fB fC) (GB : FnOk P w K mg base CX0 k fB fdB psB (spByCut P w C D)) (bB : Binds K fdB psB [])
    (GC : FnOk P w K mg base CX0 (k + 1) fC fdC psT (spBest P w C D)) (bC : Binds K fdC psT []) : FnOk P w K mg base CX0 (k + 2) f fd psT (spSought P w C D) := by
  refine F.ok scSought (fun vs H Q E h => ?_) (fun cdv A outer s0 H vs Q E hr h => ?_)
  · obtain ⟨p, l, d, pr, i, j, s, al, rfl, _⟩ := h
    rfl
  obtain ⟨p, l, d, pr, i, j, s, al, rfl, t, h7, nn, hij, hj, hs7, hD, q⟩ := h
  refine ⟨_, pss_cons (ps_if (PW.pt (pw_and (pt_cmpR op_eq (pe_op op_sub (pv 2) (pv 1)) pe_int (nomark _)) (pw_and1 (pt_cmpR op_gt (pv 3) pe_int (nomark _))))) (pss_one (ps_ret (pe_ix ix_list (pe_fld (pv 0) rfl) (pv 1) (fun _ _ => rfl)))) pss_nil)
    (pss_cons (ps_set (i := 5) scSought.nd rfl (Or.inl rfl) (pe_meth (pv 0) X.cl X.mC GC hr bC .nil pass0 (pa_cons (pv 1) (pa_cons (pv 2) (pa_cons (pv 3) (pa_cons (pv 4) pa_nil))))))
    (pss_cons (ps_if (pt_cmpR op_isN (pv 5) pe_non (nomark _)) (pss_one (ps_ret pe_non)) pss_nil)
    (pss_one (ps_ret (pe_meth (pv 0) X.cl X.mB GB (hr.mono (by omega)) bB .nil pass0 (pa_cons (pv 1) (pa_cons (pv 2) (pa_cons (pv 3) (pa_cons (pv 4) (pa_cons (pv 5) pa_nil)))))))))), ?_⟩
  obtain ⟨⟨dx, hp⟩, hl, _⟩ := id t
  -- the way behind the first test
  have rest : (2 ≤ j - i ∨ s = 0) → tSeq (tAsg (tMeth C "best_cut" (spBest P w C D) [] E0 (tVar 0) (tCons (tVar 1) (tCons (tVar 2) (tCons (tVar 3) (tCons (tVar 4) tNil))))) (gName 5))
      (tSeq (tIfS (tTest (tOp (fun x y H Q => y = .non ∧ Q (.bl (decide (x = .non))) H) (tVar 5) (tC .non))) (tRet (tC .non)) tNext)
        (tRet (tMeth C "by_cut" (spByCut P w C D) [] E0 (tVar 0) (tCons (tVar 1) (tCons (tVar 2) (tCons (tVar 3) (tCons (tVar 4) (tCons (tVar 5) tNil)))))))) { nx := fun _ H' => Q .non H', rt := Q }
      (L2.start ["self", "first", "last", "s", "is_alone", "m"] [V.ref p, V.int i, V.int j, V.int s, V.bl al]) H := by
    intro h2
    refine ⟨_, rfl, p, dx, _, rfl, hp, flds_no _ _ (by decide +kernel) (by decide +kernel), _, rfl, _, rfl, _, rfl, _, rfl, ?_⟩
    refine ⟨p, l, d, pr, i, j, s, al, rfl, t, h7, nn, hij, hj, hs7, hD, h2, fun H1 k1 t1 => ⟨fun eT => ?_, fun m x him hmj hs1 eT eb => ?_⟩⟩
    · refine ⟨_, rfl, rfl, _, rfl, iteT ?_⟩
      have q1 := q H1 k1 t1
      rw [eT] at q1
      exact q1
    · refine ⟨_, rfl, rfl, _, rfl, iteF ?_⟩
      obtain ⟨⟨dx1, hp1⟩, _⟩ := id t1
      refine ⟨_, rfl, p, dx1, _, rfl, hp1, flds_no _ _ (by decide +kernel) (by decide +kernel), _, rfl, _, rfl, _, rfl, _, rfl, _, rfl, ?_⟩
      refine ⟨p, l, d, pr, i, j, s, m, al, rfl, t1, h7, nn, him, hmj, hj, hs1, hs7, hD, fun H2 k2 t2 => ?_⟩
      have q1 := q H2 (k1.trans k2) t2
      rw [eT] at q1
      rw [eb]
      exact q1
  refine ⟨_, rfl, _, rfl, _, _, rfl, rfl, rfl, _, rfl, ?_⟩
  refine ite2 (fun c => ?_) (fun c => ?_)
  · have c1 : V.int ((j : Int) - (i : Int)) = V.int 1 := of_decide_eq_true c
    injection c1 with c1
    refine ⟨_, rfl, _, _, rfl, rfl, _, rfl, ?_⟩
    refine ite2 (fun c2 => ?_) (fun c2 => ?_)
    · have c3 : (0 : Int) < (s : Int) := of_decide_eq_true c2
      have hi : i < pr.length := by omega
      refine ⟨_, rfl, p, C, dx, _, _, rfl, hp, X.cl, X.nC, flds_costs _ _, _, rfl, l, _, _, .int pr[i], rfl, rfl, SqL.of hl, atI_nat (by rw [List.getElem?_map, List.getElem?_eq_getElem hi] <;> rfl), ?_⟩
      have q1 := q H (Kp.refl d H) t
      have e1 : j - i = 1 := by omega
      have e2 : pr.drop i = pr[i] :: pr.drop (i + 1) := List.drop_eq_getElem_cons hi
      have nn2 := nn.drop i
      rw [e2] at nn2
      rw [e1, e2, T_one (by omega) (by omega) nn2] at q1
      exact q1
    · have c3 : ¬ (0 : Int) < (s : Int) := of_decide_eq_false (Bool.eq_false_iff.mpr c2)
      exact rest (.inr (by omega))
  · have c1 : ¬ V.int ((j : Int) - (i : Int)) = V.int 1 := of_decide_eq_false (Bool.eq_false_iff.mpr c)
    have c2 : (j : Int) - (i : Int) ≠ 1 := fun z => c1 (congrArg V.int z)
    exact rest (.inl (by omega))
theorem scLeast : FnScope ["self", "first", "last", "s", "is_alone", "key"] psT (defScope sLeast) := ⟨rfl, rfl, rfl, by decide +kernel, rfl, by decide +kernel, by decide +kernel⟩
theorem ok_least {k D : Nat} {f C fL fS fB fC : Addr} {fd fdS : FuncData} (F : Fun K "least" "Table.least" sLeast f fd) (X : TxT K mg C fL fS fB fC) (GS : FnOk P w K mg base CX0 k fS fdS psT (spSought P w C D)) (bS : Binds K fdS psT []) :
    FnOk P w K mg base CX0 (k + 1) f fd psT (spLeast P w C D) := by
  refine F.ok scLeast (fun vs H Q E h => ?_) (fun cdv A outer s0 H vs Q E hr h => ?_)
  · obtain ⟨p, l, d, pr, i, j, s, al, rfl, _⟩ := h
    rfl
  obtain ⟨p, l, d, pr, i, j, s, al, rfl, t, h7, nn, hij, hj, hs7, hD, q⟩ := h
  have hu := hr.units
  refine ⟨_, pss_cons (ps_set (i := 5) scLeast.nd rfl (Or.inl rfl) (pe_tup (pa_cons (pv 1) (pa_cons (pv 2) (pa_cons (pv 3) (pa_cons (pv 4) pa_nil))))))
    (pss_cons (ps_if (pt_cmpR (op_notInM hu) (pv 5) (pe_fld (pv 0) rfl) rfl)
      (pss_one (ps_asg (pe_meth (pv 0) X.cl X.mS GS hr bS .nil pass0 (pa_cons (pv 1) (pa_cons (pv 2) (pa_cons (pv 3) (pa_cons (pv 4) pa_nil))))) (pg_sub (pe_fld (pv 0) rfl) (pv 5) (set_memo hu)))) pss_nil)
    (pss_one (ps_ret (ix_memo hu (pe_fld (pv 0) rfl) (pv 5) (fun _ _ => rfl))))), ?_⟩
  refine ⟨_, rfl, _, rfl, _, rfl, _, rfl, (by show 4 ≤ sizeLine; decide), fun kt hkt => ?_⟩
  have t1 := t.new (o := .tup (tkey ((i : Int), (j : Int), (s : Int), al))) hkt
  have k1 : Kp d H (upd H kt (.tup (tkey ((i : Int), (j : Int), (s : Int), al)))) := Kp.new hkt
  have hkd : kt ≠ d := by
    obtain ⟨_, _, ms, h3, _⟩ := t
    exact fun e => by rw [e, h3] at hkt; cases hkt
  obtain ⟨⟨dx, hp⟩, hl, ms, hd, hks, hg⟩ := id t1
  have hk : upd H kt (.tup (tkey ((i : Int), (j : Int), (s : Int), al))) kt = some (.tup (tkey ((i : Int), (j : Int), (s : Int), al))) := upd_same
  refine ⟨_, rfl, _, rfl, p, C, dx, _, _, rfl, hp, X.cl, X.nK, flds_known _ _, kt, d, ((i : Int), (j : Int), (s : Int), al), ms, rfl, rfl, hk, hd, hks, _, rfl, ?_⟩
  cases ev : valM ms ((i : Int), (j : Int), (s : Int), al) with
  | some v =>
    refine iteF ?_
    refine ⟨_, rfl, p, C, dx, _, _, rfl, hp, X.cl, X.nK, flds_known _ _, _, rfl, kt, d, ((i : Int), (j : Int), (s : Int), al), ms, v, rfl, rfl, hk, hd, hks, ev, ?_⟩
    have q1 := q _ k1 t1
    rw [hg.val ev]
    exact q1
  | none =>
    refine iteT ?_
    refine ⟨_, rfl, p, dx, _, rfl, hp, flds_no _ _ (by decide +kernel) (by decide +kernel), _, rfl, _, rfl, _, rfl, _, rfl, ?_⟩
    refine ⟨p, l, d, pr, i, j, s, al, rfl, t1, h7, nn, hij, hj, hs7, hD, fun H2 k2 t2 => ?_⟩
    obtain ⟨⟨dx2, hp2⟩, hl2, ms2, hd2, hks2, hg2⟩ := id t2
    obtain ⟨npd, nld⟩ := t2.pd
    have hk2 : H2 kt = some (.tup (tkey ((i : Int), (j : Int), (s : Int), al))) := k2 _ _ hk hkd
    have hlen := hg2.len
    refine ⟨_, rfl, p, C, dx2, _, _, rfl, hp2, X.cl, X.nK, flds_known _ _, _, rfl, kt, d, ((i : Int), (j : Int), (s : Int), al), ms2, rfl, rfl, hk2, hd2, hks2, by omega, ?_⟩
    generalize hv : ofO (T s (j - i) al (pr.drop i)) = v at q
    have hgood : GoodE pr ((i : Int), (j : Int), (s : Int), al) v := ⟨i, j, s, al, rfl, hij, by omega, hs7, hv.symm⟩
    have ks3 : Keys (upd H2 d (MemoO P w d (storeM ms2 ((i : Int), (j : Int), (s : Int), al) kt v))) (storeM ms2 ((i : Int), (j : Int), (s : Int), al) kt v) := fun m hm => by
      have key : H2 m.2.1 = some (.tup (tkey m.1)) := by
        rcases mem_store hm with ⟨e1, _, e2⟩ | h
        · rcases e2 with e2 | ⟨z, e2⟩
          · rw [e1, e2]
            exact hk2
          · exact hks2 (m.1, m.2.1, z) e2
        · exact hks2 _ h
      rw [upd_ne (ne_of key hd2 (fun z => memo_ne (fun φ y => by cases y) z.symm))]
      exact key
    have t3 : TabAt P w C (upd H2 d (MemoO P w d (storeM ms2 ((i : Int), (j : Int), (s : Int), al) kt v))) p l d pr :=
      ⟨⟨dx2, by rw [upd_ne npd]; exact hp2⟩, by rw [upd_ne nld]; exact hl2, _, upd_same, ks3, hg2.store hgood⟩
    refine ⟨_, rfl, p, C, dx2, _, _, rfl, (by rw [upd_ne npd]; exact hp2), X.cl, X.nK, flds_known _ _, _, rfl, kt, d, ((i : Int), (j : Int), (s : Int), al), storeM ms2 ((i : Int), (j : Int), (s : Int), al) kt v, v, rfl, rfl, (by rw [upd_ne hkd]; exact hk2), ?_, ks3, valM_store, ?_⟩
    · exact upd_same
    · exact q _ (((k1.trans k2)).trans (Kp.upd d H2 _)) t3
/-- nothing can be asked of no stretches -/
theorem least_zero {f C : Addr} {fd : FuncData} {k : Nat} : FnOk P w K mg base CX0 k f fd psT (spLeast P w C 0) := by
  have no : ∀ vs H Q E, ¬ spLeast P w C 0 vs H Q E := fun vs H Q E h => by
    obtain ⟨p, l, d, pr, i, j, s, al, _, _, _, _, h1, _, _, h2, _⟩ := h
    omega
  exact ⟨fun vs H Q E h => absurd h (no vs H Q E), fun A outer s H args us vs Q E _ _ _ _ h => absurd h (no vs H Q E)⟩
structure TabFns (K : PySem.W.Frag) (mg : Str → Option Value) (C fL fS fB fC gF : Addr) (dL dS dB dC dF : FuncData) : Prop where
  tx : TxT K mg C fL fS fB fC
  FL : Fun K "least" "Table.least" sLeast fL dL
  FS : Fun K "sought" "Table.sought" sSought fS dS
  FB : Fun K "by_cut" "Table.by_cut" sByCut fB dB
  FC : Fun K "best_cut" "Table.best_cut" sBest fC dC
  bL : Binds K dL psT []
  bS : Binds K dS psT []
  bB : Binds K dB psB []
  bC : Binds K dC psT []
  bF : Binds K dF ["s", "is_alone"] []
  kF : PySem.W.keepIn K (.ref gF) = true
  mF : mg "farthest" = some (.ref gF)
theorem all_table {C fL fS fB fC gF : Addr} {dL dS dB dC dF : FuncData} (X : TabFns K mg C fL fS fB fC gF dL dS dB dC dF) (GF : FnOk P w K mg base CX0 3 gF dF ["s", "is_alone"] spFar) :
    ∀ D : Nat, FnOk P w K mg base CX0 (4 * D + 3) fL dL psT (spLeast P w C D) ∧ FnOk P w K mg base CX0 (4 * D + 3) fC dC psT (spBest P w C D)
  | 0 => ⟨least_zero, by
      have no : ∀ vs H Q E, ¬ spBest P w C 0 vs H Q E := fun vs H Q E h => by
        obtain ⟨p, l, d, pr, i, j, s, al, _, _, _, _, h1, _, _, h2, _⟩ := h
        omega
      exact ⟨fun vs H Q E h => absurd h (no vs H Q E), fun A outer s H args us vs Q E _ _ _ _ h => absurd h (no vs H Q E)⟩⟩
  | D + 1 => by
    obtain ⟨ih, _⟩ := all_table X GF D
    have gB := ok_bycut X.FB X.tx ih X.bL
    have gC := ok_best X.FC X.tx gB X.bB GF X.bF X.kF X.mF (by omega)
    have gS := ok_sought X.FS X.tx gB X.bB gC X.bC
    have gL := ok_least X.FL X.tx gS X.bS
    have e : 4 * (D + 1) + 3 = 4 * D + 3 + 1 + 2 + 1 := by omega
    rw [e]
    exact ⟨gL, gC.mono (by omega)⟩
end
end K38
/-! K38: alone, reached. -/
namespace K38
open PySem PySem.Spec PyProof.Rows L2
section
variable {P : Program} {w : World} {K : PySem.W.Frag} {mg : Str → Option Value} {base : Heap}
/-- a new table leaves all that was tracked -/
theorem same_made {H H1 : Hp} {x dx C : Addr} (nx : H x = none) (nd : H dx = none) (k : ∀ b o, (upd (upd H dx (.own x)) x (.ins C dx [])) b = some o → b ≠ x → H1 b = some o) : Same H H1 := L2.Same.made nx nd k
theorem Same.kp {d : Addr} {H H1 H2 : Hp} (a : Same H H1) (k : Kp d H1 H2) (hd : H d = none) : Same H H2 := fun b o e => k b o (a b o e) (ne_of_none e hd)
theorem scAlone : FnScope ["costs", "s"] ["costs", "s"] (defScope sAlone) := ⟨rfl, rfl, rfl, by decide +kernel, rfl, by decide +kernel, by decide +kernel⟩
theorem ok_alone {k : Nat} {f C fI fL fS fB fC : Addr} {fd fdI fdL : FuncData} (F : Fun K "alone" "alone" sAlone f fd) (X : TxT K mg C fL fS fB fC) (M : Mk K C fI) (GI : FnOk P w K mg base CX0 1 fI fdI ["self", "costs"] (spTInit P w K C)) (bI : Binds K fdI ["self", "costs"] [])
    (GL : FnOk P w K mg base CX0 k fL fdL psT (spLeast P w C 7)) (bL : Binds K fdL psT []) (hk : 2 ≤ k) : FnOk P w K mg base CX0 (k + 1) f fd ["costs", "s"] (spValue K true) := by
  refine F.ok scAlone (fun vs H Q E h => ?_) (fun cdv A outer s0 H vs Q E hr h => ?_)
  · obtain ⟨a, pr, s, rfl, _⟩ := h
    rfl
  obtain ⟨a, pr, s, rfl, hS, h1, h7, nn, hs7, q⟩ := h
  refine ⟨_, pss_one (ps_ret (pe_meth (pl := plainOf _ _) (pe_make M GI (hr.mono hk) rfl X.mgC bI .nil pass0 (pa_cons (pv 0) pa_nil)) X.cl X.mL GL hr bL .nil pass0
    (pa_cons pe_int (pa_cons (pe_callB call_len_seq (by rfl) X.len PySem.boot_len (pa_cons (pv 0) pa_nil)) (pa_cons (pv 1) (pa_cons pe_bl pa_nil))))
    (ht := mcall_of (by rfl) fun ov => mcall_line (by rfl) (by decide)))), ?_⟩
  refine ⟨_, rfl, fun x dx nx ndx nex => ?_⟩
  have nS : SqL K (upd (upd H dx (.own x)) x (.ins C dx [])) a (pr.map V.int) := Same.seq (fun b o e => by rw [upd_ne (ne_of_none e nx), upd_ne (ne_of_none e ndx)]; exact e) hS
  refine ⟨x, dx, a, pr, rfl, upd_same, nS, fun l d H1 hl hd t1 k1 => ⟨rfl, ?_⟩⟩
  have s1 : Same H H1 := same_made nx ndx k1
  have hd0 : H d = none := by
    cases e : H d with
    | none => rfl
    | some o =>
      have z : (upd (upd H dx (.own x)) x (.ins C dx [])) d = some o := by
        rw [upd_ne (ne_of_none e nx), upd_ne (ne_of_none e ndx)]
        exact e
      rw [hd] at z
      cases z
  obtain ⟨⟨dx1, hp1⟩, _⟩ := id t1
  refine ⟨x, dx1, _, rfl, hp1, flds_no _ _ (by decide +kernel) (by decide +kernel), _, rfl, a, _, rfl, .inl (s1.seq hS), _, rfl, ?_⟩
  refine ⟨x, l, d, pr, 0, pr.length, s, true, ?_, t1, h7, nn, by omega, Nat.le_refl _, hs7, by omega, fun H2 k2 t2 => ?_⟩
  · rw [List.length_map]
    all_goals rfl
  · exact q H2 (Same.kp s1 k2 hd0)
theorem scReached : FnScope ["costs", "s"] ["costs", "s"] (defScope sReached) := ⟨rfl, rfl, rfl, by decide +kernel, rfl, by decide +kernel, by decide +kernel⟩
theorem ok_reached {k : Nat} {f C fI fL fS fB fC : Addr} {fd fdI fdL : FuncData} (F : Fun K "reached" "reached" sReached f fd) (X : TxT K mg C fL fS fB fC) (M : Mk K C fI) (GI : FnOk P w K mg base CX0 1 fI fdI ["self", "costs"] (spTInit P w K C)) (bI : Binds K fdI ["self", "costs"] [])
    (GL : FnOk P w K mg base CX0 k fL fdL psT (spLeast P w C 7)) (bL : Binds K fdL psT []) (hk : 2 ≤ k) : FnOk P w K mg base CX0 (k + 1) f fd ["costs", "s"] (spValue K false) := by
  refine F.ok scReached (fun vs H Q E h => ?_) (fun cdv A outer s0 H vs Q E hr h => ?_)
  · obtain ⟨a, pr, s, rfl, _⟩ := h
    rfl
  obtain ⟨a, pr, s, rfl, hS, h1, h7, nn, hs7, q⟩ := h
  refine ⟨_, pss_one (ps_ret (pe_meth (pl := plainOf _ _) (pe_make M GI (hr.mono hk) rfl X.mgC bI .nil pass0 (pa_cons (pv 0) pa_nil)) X.cl X.mL GL hr bL .nil pass0
    (pa_cons pe_int (pa_cons (pe_callB call_len_seq (by rfl) X.len PySem.boot_len (pa_cons (pv 0) pa_nil)) (pa_cons (pv 1) (pa_cons pe_bl pa_nil))))
    (ht := mcall_of (by rfl) fun ov => mcall_line (by rfl) (by decide)))), ?_⟩
  refine ⟨_, rfl, fun x dx nx ndx nex => ?_⟩
  have nS : SqL K (upd (upd H dx (.own x)) x (.ins C dx [])) a (pr.map V.int) := Same.seq (fun b o e => by rw [upd_ne (ne_of_none e nx), upd_ne (ne_of_none e ndx)]; exact e) hS
  refine ⟨x, dx, a, pr, rfl, upd_same, nS, fun l d H1 hl hd t1 k1 => ⟨rfl, ?_⟩⟩
  have s1 : Same H H1 := same_made nx ndx k1
  have hd0 : H d = none := by
    cases e : H d with
    | none => rfl
    | some o =>
      have z : (upd (upd H dx (.own x)) x (.ins C dx [])) d = some o := by
        rw [upd_ne (ne_of_none e nx), upd_ne (ne_of_none e ndx)]
        exact e
      rw [hd] at z
      cases z
  obtain ⟨⟨dx1, hp1⟩, _⟩ := id t1
  refine ⟨x, dx1, _, rfl, hp1, flds_no _ _ (by decide +kernel) (by decide +kernel), _, rfl, a, _, rfl, .inl (s1.seq hS), _, rfl, ?_⟩
  refine ⟨x, l, d, pr, 0, pr.length, s, false, ?_, t1, h7, nn, by omega, Nat.le_refl _, hs7, by omega, fun H2 k2 t2 => ?_⟩
  · rw [List.length_map]
    all_goals rfl
  · exact q H2 (Same.kp s1 k2 hd0)
end
end K38
/-! K38: plans, turned about; Planner. -/
namespace K38
open PySem PySem.Spec PyProof.Rows L2
abbrev sTurnedMove : Stmt := top 8
abbrev sTurnedPlan : Stmt := top 9
abbrev sPInit : Stmt := inClass (top 11) 0
abbrev sWay : Stmt := inClass (top 11) 1
abbrev sWhole : Stmt := inClass (top 11) 2
abbrev sLeft : Stmt := top 12
abbrev sShown : Stmt := top 13
/-! ### plans -/
inductive Mv where
  | lay (k : Nat) | clear (k : Nat) | sho
def Mv.vs : Mv → List V
  | .lay k => [.str "lay", .int k]
  | .clear k => [.str "clear", .int k]
  | .sho => [.str "show"]
def Mv.turn : Mv → Mv
  | .lay k => .clear k
  | .clear k => .lay k
  | .sho => .sho
def Mv.ok (n : Nat) : Mv → Prop
  | .lay k => 1 ≤ k ∧ k ≤ n
  | .clear k => 1 ≤ k ∧ k ≤ n
  | .sho => True
def Mv.cost (pr : List Int) : Mv → Int
  | .lay k => pr.getD (k - 1) 0
  | .clear k => pr.getD (k - 1) 0
  | .sho => 0
theorem turn_ok {n : Nat} {m : Mv} (h : m.ok n) : m.turn.ok n := by cases m <;> exact h
theorem turn_cost (pr : List Int) (m : Mv) : m.turn.cost pr = m.cost pr := by cases m <;> rfl
def cost (pr : List Int) : List Mv → Int
  | [] => 0
  | m :: r => m.cost pr + cost pr r
theorem cost_app (pr : List Int) : ∀ (a b : List Mv), cost pr (a ++ b) = cost pr a + cost pr b
  | [], b => by show cost pr b = 0 + cost pr b; omega
  | m :: r, b => by
    have ih := cost_app pr r b
    show m.cost pr + cost pr (r ++ b) = m.cost pr + cost pr r + cost pr b
    omega
def turnP (ms : List Mv) : List Mv := ms.reverse.map Mv.turn
theorem turnP_cost (pr : List Int) : ∀ ms : List Mv, cost pr (turnP ms) = cost pr ms
  | [] => rfl
  | m :: r => by
    have ih := turnP_cost pr r
    unfold turnP at ih ⊢
    rw [List.reverse_cons, List.map_append, cost_app, ih]
    show cost pr r + (m.turn.cost pr + 0) = m.cost pr + cost pr r
    rw [turn_cost]
    omega
theorem turnP_length (ms : List Mv) : (turnP ms).length = ms.length := by
  unfold turnP
  rw [List.length_map, List.length_reverse]
def Oks (n : Nat) (ms : List Mv) : Prop := ∀ m, m ∈ ms → m.ok n
theorem Oks.app {n : Nat} {a b : List Mv} (h : Oks n a) (h' : Oks n b) : Oks n (a ++ b) := fun m hm => (List.mem_append.mp hm).elim (h m) (h' m)
theorem Oks.turnP {n : Nat} {a : List Mv} (h : Oks n a) : Oks n (turnP a) := fun m hm => by
  obtain ⟨x, hx, e⟩ := List.mem_map.mp hm
  rw [← e]
  exact turn_ok (h x (List.mem_reverse.mp hx))
abbrev PlanL (H : Hp) : List V → List Mv → Prop := Paired fun x m => ∃ r, x = .ref r ∧ H r = some (.tup m.vs)
def PlanAt (H : Hp) (p : Addr) (ms : List Mv) : Prop := ∃ xs, H p = some (.lst xs) ∧ PlanL H xs ms
theorem PlanL.mono {H H' : Hp} {xs : List V} {ms : List Mv} (h : PlanL H xs ms) (k : ∀ r ys, H r = some (.tup ys) → H' r = some (.tup ys)) : PlanL H' xs ms :=
  L2.Paired.mapP h fun _ _ ⟨r, e, z⟩ => ⟨r, e, k r _ z⟩
theorem PlanL.app {H : Hp} {xs ys : List V} {ms ns : List Mv} (h : PlanL H xs ms) (h' : PlanL H ys ns) : PlanL H (xs ++ ys) (ms ++ ns) := by
  induction h with
  | nil => exact h'
  | cons a b ih => exact .cons a ih
theorem PlanL.len {H : Hp} {xs : List V} {ms : List Mv} (h : PlanL H xs ms) : xs.length = ms.length := Paired.length h
theorem PlanL.get {H : Hp} {xs : List V} {ms : List Mv} (h : PlanL H xs ms) : ∀ {i : Nat} {x : V}, xs[i]? = some x → ∃ m, ms[i]? = some m ∧ ∃ r, x = .ref r ∧ H r = some (.tup m.vs) := by
  intro i x e
  obtain ⟨m, h1, h2⟩ := paired_get h (i := i) (a := x) e
  exact ⟨m, h1, h2⟩
theorem tup_upd {H : Hp} {D : Addr} {xs : List V} {o : HO} (hD : H D = some (.lst xs)) : ∀ r ys, H r = some (.tup ys) → upd H D o r = some (.tup ys) := fun r ys e => by
  rw [upd_ne (ne_of e hD (fun z => by cases z))]
  exact e
theorem tup_new {H : Hp} {D : Addr} {o : HO} (hD : H D = none) : ∀ r ys, H r = some (.tup ys) → upd H D o r = some (.tup ys) := fun r ys e => by
  rw [upd_ne (ne_of_none e hD)]
  exact e
theorem same_new {H : Hp} {p : Addr} (h : H p = none) (o : HO) : Same H (upd H p o) := fun b u q => by rw [upd_ne (ne_of_none q h)]; exact q
/-! ### promises -/
def spTurnM : Sp := fun vs H Q _ => ∃ (r : Addr) (m : Mv), vs = [.ref r] ∧ H r = some (.tup m.vs) ∧ ∀ r' H', Same H H' → H' r' = some (.tup m.turn.vs) → Q (.ref r') H'
def spTurnP : Sp := fun vs H Q _ => ∃ (p : Addr) (ms : List Mv), vs = [.ref p] ∧ PlanAt H p ms ∧ ms.length ≤ 100000 ∧ ∀ p' H', Same H H' → PlanAt H' p' (turnP ms) → Q (.ref p') H'
section
variable {P : Program} {w : World} {K : PySem.W.Frag} {mg : Str → Option Value} {base : Heap}
theorem scTM : FnScope ["move"] ["move"] (defScope sTurnedMove) := ⟨rfl, rfl, rfl, by decide +kernel, rfl, by decide +kernel, by decide +kernel⟩
theorem lc1 : ¬ V.str "clear" = V.str "lay" := by intro h; injection h with h; exact absurd h (by decide +kernel)
theorem sh1 : ¬ V.str "show" = V.str "lay" := by intro h; injection h with h; exact absurd h (by decide +kernel)
theorem sh2 : ¬ V.str "show" = V.str "clear" := by intro h; injection h with h; exact absurd h (by decide +kernel)
theorem ok_turnm {f : Addr} {fd : FuncData} (F : Fun K "turned_move" "turned_move" sTurnedMove f fd) : FnOk P w K mg base CX0 1 f fd ["move"] spTurnM := by
  refine F.ok scTM (fun vs H Q E h => ?_) (fun cdv A outer s0 H vs Q E hr h => ?_)
  · obtain ⟨r, m, rfl, _⟩ := h
    rfl
  obtain ⟨r, m, rfl, hm, q⟩ := h
  refine ⟨_, pss_cons (ps_if (pt_cmpR op_eq (pe_ix ix_tup (pv 0) pe_int (fun _ _ => rfl)) pe_str (nomark _)) (pss_one (ps_ret (pe_tup (pa_cons pe_str (pa_cons (pe_ix ix_tup (pv 0) pe_int (fun _ _ => rfl)) pa_nil))))) pss_nil)
    (pss_cons (ps_if (pt_cmpR op_eq (pe_ix ix_tup (pv 0) pe_int (fun _ _ => rfl)) pe_str (nomark _)) (pss_one (ps_ret (pe_tup (pa_cons pe_str (pa_cons (pe_ix ix_tup (pv 0) pe_int (fun _ _ => rfl)) pa_nil))))) pss_nil)
    (pss_one (ps_ret (pv 0)))), ?_⟩
  cases m with
  | lay k =>
    refine ⟨_, rfl, r, _, _, _, rfl, rfl, SqT.of hm, rfl, rfl, _, rfl, ?_⟩
    rw [decide_eq_true rfl]
    refine iteT ?_
    refine ⟨_, rfl, r, _, _, _, rfl, rfl, SqT.of hm, rfl, (by show 2 ≤ sizeLine; decide), fun t ht => ?_⟩
    exact q t _ (same_new ht _) upd_same
  | clear k =>
    refine ⟨_, rfl, r, _, _, _, rfl, rfl, SqT.of hm, rfl, rfl, _, rfl, ?_⟩
    rw [decide_eq_false lc1]
    refine iteF ?_
    refine ⟨_, rfl, r, _, _, _, rfl, rfl, SqT.of hm, rfl, rfl, _, rfl, ?_⟩
    rw [decide_eq_true rfl]
    refine iteT ?_
    refine ⟨_, rfl, r, _, _, _, rfl, rfl, SqT.of hm, rfl, (by show 2 ≤ sizeLine; decide), fun t ht => ?_⟩
    exact q t _ (same_new ht _) upd_same
  | sho =>
    refine ⟨_, rfl, r, _, _, _, rfl, rfl, SqT.of hm, rfl, rfl, _, rfl, ?_⟩
    rw [decide_eq_false sh1]
    refine iteF ?_
    refine ⟨_, rfl, r, _, _, _, rfl, rfl, SqT.of hm, rfl, rfl, _, rfl, ?_⟩
    rw [decide_eq_false sh2]
    refine iteF ?_
    exact ⟨_, rfl, q r H (Same.refl H) hm⟩
theorem scTP : FnScope ["plan", "move"] ["plan"] (defScope sTurnedPlan) := ⟨rfl, rfl, rfl, by decide +kernel, rfl, by decide +kernel, by decide +kernel⟩
theorem ok_turnp {f g : Addr} {fd gd : FuncData} (F : Fun K "turned_plan" "turned_plan" sTurnedPlan f fd) (G : FnOk P w K mg base CX0 1 g gd ["move"] spTurnM) (bG : Binds K gd ["move"] []) (kG : PySem.W.keepIn K (.ref g) = true) (mG : mg "turned_move" = some (.ref g)) (mr : mg "reversed" = none) :
    FnOk P w K mg base CX0 2 f fd ["plan"] spTurnP := by
  refine F.ok scTP (fun vs H Q E h => ?_) (fun cdv A outer s0 H vs Q E hr h => ?_)
  · obtain ⟨p, ms, rfl, _⟩ := h
    rfl
  obtain ⟨p, ms, rfl, ⟨xs, hp, hx⟩, hlen, q⟩ := h
  refine ⟨_, pss_one (ps_ret (pe_lc (own := [("move", 1)]) (g := gName 1) (tt := tYes) rfl scTP.nd (pi_reversed (by rfl) mr (pa_cons (pv 0) pa_nil)) (blkOk_by (own := [("move", 1)]) (N := ["plan", "move"]) (sc := defScope sTurnedPlan) (by decide +kernel))
    (fun _ _ _ _ _ => pg_name (i := 1) scTP.nd rfl (Or.inl rfl)) (fun _ _ _ _ _ => pts_nil) (fun _ _ _ _ _ => pe_call G hr rfl mG kG bG .nil pass0 (pa_cons (pv 1) pa_nil)))), ?_⟩
  refine ⟨_, rfl, p, xs, rfl, SqL.of hp, fun D hD => lc_it (walk_rev (K := K) (a := p) (xs := xs)) (fun i H1 => ∃ ys, H1 D = some (.lst ys) ∧ Same H H1 ∧ PlanL H1 ys ((ms.reverse.take i).map Mv.turn)) ?_ ?_ ?_ ?_⟩
  · exact ⟨[], upd_same, same_new hD _, .nil⟩
  · rintro i H1 _ ⟨ys, _, s1, _⟩
    exact s1.seq (SqL.of hp)
  · rintro i x H1 H2 hi ⟨ys, hy, s1, hpl⟩ ⟨rfl, hx2⟩
    obtain ⟨m, hm, r, rfl, hr2⟩ := hx.get hx2
    have hl := hx.len
    refine ⟨rfl, ?_⟩
    refine ⟨_, rfl, r, m, rfl, s1 _ _ hr2, fun r' H3 s3 hr3 => ?_⟩
    have hy3 := s3 _ _ hy
    have hyl := hpl.len
    rw [List.length_map, List.length_take, List.length_reverse] at hyl
    refine ⟨ys, hy3, (by rw [sizeLine_eq]; omega), ys ++ [.ref r'], upd_same, fun b o e => ?_, ?_⟩
    · have hb : b ≠ D := ne_of_none e hD
      rw [upd_ne hb]
      exact s3 _ _ (s1 _ _ e)
    · have em : ms.reverse.take (i + 1) = ms.reverse.take i ++ [m] := by
        rw [List.take_add_one]
        congr 1
        rw [List.getElem?_reverse (by omega), ← hl, hm] <;> rfl
      rw [em, List.map_append]
      exact PlanL.app ((hpl.mono (fun r ys e => s3 _ _ e)).mono (tup_upd hy3)) (.cons ⟨r', rfl, tup_upd hy3 _ _ hr3⟩ .nil)
  · rintro H1 ⟨ys, hy, s1, hpl⟩
    refine q D H1 s1 ⟨ys, hy, ?_⟩
    have hl := hx.len
    have e : ms.reverse.take xs.length = ms.reverse := List.take_of_length_le (by rw [List.length_reverse]; omega)
    rw [e] at hpl
    exact hpl
end
end K38
/-! K38: the class Planner; left_plan, shown_plan. -/
namespace K38
open PySem PySem.Spec PyProof.Rows L2
theorem tn : ¬ (("table" : Str) = "n") := by decide +kernel
def fldsP (tp : Addr) (n : Nat) : List (Str × V) := putF "n" (.int n) (putF "table" (.ref tp) [])
theorem fldsP_table (tp : Addr) (n : Nat) : (fldsP tp n).lookup ("table" : Str) = some (.ref tp) := by
  unfold fldsP
  rw [lookup_putF, if_neg tn, lookup_putF, if_pos rfl]
theorem fldsP_n (tp : Addr) (n : Nat) : (fldsP tp n).lookup ("n" : Str) = some (.int n) := by
  unfold fldsP
  rw [lookup_putF, if_pos rfl]
theorem fldsP_no (tp : Addr) (n : Nat) {m : Str} (h1 : ¬ m = "table") (h2 : ¬ m = "n") : (fldsP tp n).lookup m = none := by
  unfold fldsP
  rw [lookup_putF, if_neg h2, lookup_putF, if_neg h1]
  all_goals rfl
def PlAt (C2 : Addr) (H : Hp) (q tp : Addr) (n : Nat) : Prop := ∃ dx, H q = some (.ins C2 dx (fldsP tp n))
def spPInit (P : Program) (w : World) (K : PySem.W.Frag) (C C2 : Addr) : Sp := fun vs H Q _ => ∃ (q dx a : Addr) (pr : List Int), vs = [.ref q, .ref a] ∧ H q = some (.ins C2 dx []) ∧ SqL K H a (pr.map V.int) ∧
  ∀ (tp l d : Addr) (H' : Hp), H d = none → TabAt P w C H' tp l d pr → PlAt C2 H' q tp pr.length → (∀ b o, H b = some o → b ≠ q → H' b = some o) → Q .non H'
/-- a plan that costs x -/
structure Costs (n : Nat) (pr : List Int) (x : Int) (ms : List Mv) (len : Nat) : Prop where
  ok : Oks n ms
  co : cost pr ms = x
  le : ms.length ≤ len
def spWay (P : Program) (w : World) (C C2 : Addr) (D : Nat) : Sp := fun vs H Q _ => ∃ (pl tp l d : Addr) (pr : List Int) (i j s : Nat) (al : Bool) (x : Int), vs = [.ref pl, .int i, .int j, .int s, .bl al] ∧ PlAt C2 H pl tp pr.length ∧ TabAt P w C H tp l d pr ∧
  pr.length ≤ 7 ∧ NonNeg pr ∧ i < j ∧ j ≤ pr.length ∧ s ≤ 7 ∧ j - i ≤ D ∧ T s (j - i) al (pr.drop i) = some x ∧
  ∀ (r : Addr) (ms : List Mv) (H' : Hp), Kp d H H' → TabAt P w C H' tp l d pr → PlanAt H' r ms → H r = none → Costs pr.length pr x ms (3 ^ (j - i)) → Q (.ref r) H'
def spWhole (P : Program) (w : World) (C C2 : Addr) : Sp := fun vs H Q _ => ∃ (pl tp l d : Addr) (pr : List Int) (s : Nat) (al : Bool), vs = [.ref pl, .int s, .bl al] ∧ PlAt C2 H pl tp pr.length ∧ TabAt P w C H tp l d pr ∧
  1 ≤ pr.length ∧ pr.length ≤ 7 ∧ NonNeg pr ∧ s ≤ 7 ∧
  ∀ (H' : Hp), Kp d H H' → (T s pr.length al pr = none → Q .non H') ∧ (∀ (r : Addr) (ms : List Mv) (x : Int), T s pr.length al pr = some x → PlanAt H' r ms → Costs pr.length pr x ms 2187 → Q (.ref r) H')
/-- what a plan-telling def promises: f x, what it costs where the table tells x -/
def spPlan (K : PySem.W.Frag) (al : Bool) (f : Int → Int) : Sp := fun vs H Q _ => ∃ (a : Addr) (pr : List Int) (s : Nat), vs = [.ref a, .int s] ∧ SqL K H a (pr.map V.int) ∧ 1 ≤ pr.length ∧ pr.length ≤ 7 ∧ NonNeg pr ∧ s ≤ 7 ∧
  ∀ (H' : Hp), Same H H' → (T s pr.length al pr = none → Q .non H') ∧ (∀ (r : Addr) (ms : List Mv) (x : Int), T s pr.length al pr = some x → PlanAt H' r ms → Costs pr.length pr (f x) ms 5000 → Q (.ref r) H')
structure TxP (K : PySem.W.Frag) (mg : Str → Option Value) (C2 fW fH : Addr) : Prop where
  cl : Cls K C2
  nT : NoAttr K C2 "table"
  nN : NoAttr K C2 "n"
  mgP : mg "Planner" = some (.ref C2)
  mW : Meth K C2 "way" fW
  mH : Meth K C2 "whole_way" fH
section
variable {P : Program} {w : World} {K : PySem.W.Frag} {mg : Str → Option Value} {base : Heap}
theorem scPInit : FnScope ["self", "costs"] ["self", "costs"] (defScope sPInit) := ⟨rfl, rfl, rfl, by decide +kernel, rfl, by decide +kernel, by decide +kernel⟩
theorem ok_pinit {f C C2 fI fL fS fB fC fW fH : Addr} {fd fdI : FuncData} (F : Fun K "__init__" "Planner.__init__" sPInit f fd) (X : TxT K mg C fL fS fB fC) (X2 : TxP K mg C2 fW fH) (M : Mk K C fI)
    (GI : FnOk P w K mg base CX0 1 fI fdI ["self", "costs"] (spTInit P w K C)) (bI : Binds K fdI ["self", "costs"] []) : FnOk P w K mg base CX0 3 f fd ["self", "costs"] (spPInit P w K C C2) := by
  refine F.ok scPInit (fun vs H Q E h => ?_) (fun cdv A outer s0 H vs Q E hr h => ?_)
  · obtain ⟨q, dx, a, pr, rfl, _⟩ := h
    rfl
  obtain ⟨pl, dp, a, pr, rfl, hp, hS, q⟩ := h
  refine ⟨_, pss_cons (ps_fld (pv 0) (pe_make M GI hr rfl X.mgC bI .nil pass0 (pa_cons (pv 1) pa_nil)) rfl)
    (pss_one (ps_fld (pv 0) (pe_callB call_len_seq (by rfl) X.len PySem.boot_len (pa_cons (pv 1) pa_nil)) rfl)), ?_⟩
  refine ⟨_, rfl, fun x dx nx ndx nex => ?_⟩
  have s0' : Same H (upd (upd H dx (.own x)) x (.ins C dx [])) := fun b o e => by rw [upd_ne (ne_of_none e nx), upd_ne (ne_of_none e ndx)]; exact e
  refine ⟨x, dx, a, pr, rfl, upd_same, s0'.seq hS, fun l d H1 hl hd t1 k1 => ⟨rfl, ?_⟩⟩
  have s1 : Same H H1 := same_made nx ndx k1
  have hd0 : H d = none := s0'.free hd
  have hp1 := s1 _ _ hp
  refine ⟨_, rfl, pl, C2, dp, [], rfl, hp1, X2.cl, X2.nT, (by show 0 < 1000; decide), ?_⟩
  have hpx : pl ≠ x := ne_of_none hp nx
  have npa : ∀ zs, SqL K H1 a zs → SqL K (upd H1 pl (.ins C2 dp (putF "table" (.ref x) []))) a zs := fun zs hz => by
    rcases hz with (z | ⟨o, z⟩) | z
    · exact .inl (.inl (by rw [upd_ne (ne_of z hp1 (fun y => by cases y))]; exact z))
    · exact .inl (.inr ⟨o, by rw [upd_ne (ne_of z hp1 (fun y => by cases y))]; exact z⟩)
    · exact .inr z
  refine ⟨_, rfl, a, _, rfl, .inl (npa _ (s1.seq hS)), _, rfl, pl, C2, dp, _, rfl, upd_same, X2.cl, X2.nN, (by show 1 < 1000; decide), ?_⟩
  obtain ⟨⟨dx1, g1⟩, g2, ms, g3, g4, g5⟩ := t1
  have n1 : x ≠ pl := hpx.symm
  have n2 : l ≠ pl := ne_of g2 hp1 (fun y => by cases y)
  have n3 : d ≠ pl := ne_of g3 hp1 (fun y => by cases y)
  have up : ∀ b, b ≠ pl → (upd (upd H1 pl (.ins C2 dp (putF "table" (.ref x) []))) pl (.ins C2 dp (putF "n" (.int ((List.map V.int pr).length : Nat)) (putF "table" (.ref x) [])))) b = H1 b := fun b hb => by rw [upd_ne hb, upd_ne hb]
  refine q x l d _ hd0 ⟨⟨dx1, (up x n1).trans g1⟩, (up l n2).trans g2, ms, (up d n3).trans g3, fun m hm => (up _ (ne_of (g4 m hm) hp1 (fun y => by cases y))).trans (g4 m hm), g5⟩ ⟨dp, ?_⟩ fun b o e hb => (up b hb).trans (s1 b o e)
  rw [upd_same, List.length_map]
  all_goals rfl
theorem byc_parts {s d : Nat} {al : Bool} {q : List Int} {e : Nat} {x : Int} (h : byc s d al q e = some x) : ∃ x1 x2 x3, T s e true q = some x1 ∧ T (s - 1) (d - e) al (q.drop e) = some x2 ∧ (al = true → T (s - 1) e true q = some x3) ∧ x = x1 + x2 + (if al = true then x3 else 0) := by
  unfold byc at h
  cases e1 : T s e true q with
  | none => rw [e1] at h; exact nomatch (show (none : Option Int) = some x from h)
  | some x1 =>
    cases e2 : T (s - 1) (d - e) al (q.drop e) with
    | none => rw [e1, e2] at h; exact nomatch (show (none : Option Int) = some x from h)
    | some x2 =>
      rw [e1, e2] at h
      cases al with
      | false =>
        have h2 := Option.some.inj (show some (x1 + x2 + 0) = some x from h)
        exact ⟨x1, x2, 0, rfl, rfl, (fun z => nomatch z), by simp; omega⟩
      | true =>
        cases e3 : T (s - 1) e true q with
        | none =>
          have h' : add2 (add2 (some x1) (some x2)) (T (s - 1) e true q) = some x := h
          rw [e3] at h'
          exact nomatch (show (none : Option Int) = some x from h')
        | some x3 =>
          have h' : add2 (add2 (some x1) (some x2)) (T (s - 1) e true q) = some x := h
          rw [e3] at h'
          have h2 := Option.some.inj (show some (x1 + x2 + x3) = some x from h')
          exact ⟨x1, x2, x3, rfl, rfl, fun _ => rfl, by simp; omega⟩
theorem pow3 {a b d : Nat} (ha : 1 ≤ a) (hb : 1 ≤ b) (h : a + b = d) : 3 ^ a + 3 ^ b + 3 ^ a ≤ 3 ^ d := by
  have h1 : 3 ^ a * 3 ^ b = 3 ^ d := by rw [← Nat.pow_add, h]
  have h2 : 3 ≤ 3 ^ a := by
    calc 3 = 3 ^ 1 := rfl
    _ ≤ 3 ^ a := Nat.pow_le_pow_right (by decide) ha
  have h3 : 3 ≤ 3 ^ b := by
    calc 3 = 3 ^ 1 := rfl
    _ ≤ 3 ^ b := Nat.pow_le_pow_right (by decide) hb
  rw [← h1]
  obtain ⟨u, hu⟩ : ∃ u, 3 ^ a = u + 3 := ⟨3 ^ a - 3, by omega⟩
  obtain ⟨v, hv⟩ : ∃ v, 3 ^ b = v + 3 := ⟨3 ^ b - 3, by omega⟩
  rw [hu, hv]
  have : (u + 3) * (v + 3) = u * v + 3 * u + 3 * v + 9 := by
    rw [Nat.add_mul, Nat.mul_add, Nat.mul_add]
    omega
  rw [this]
  have : 0 ≤ u * v := Nat.zero_le _
  omega
theorem scWay : FnScope ["self", "first", "last", "s", "is_alone", "m", "found"] psT (defScope sWay) := ⟨rfl, rfl, rfl, by decide +kernel, rfl, by decide +kernel, by decide +kernel⟩
theorem PlanAt.kp {P : Program} {w : World} {C : Addr} {H H' : Hp} {tp l d r : Addr} {pr : List Int} {ms : List Mv} (h : PlanAt H r ms) (t : TabAt P w C H tp l d pr) (k : Kp d H H') : PlanAt H' r ms := by
  obtain ⟨_, _, mm, g3, _⟩ := t
  obtain ⟨xs, h1, h2⟩ := h
  exact ⟨xs, k _ _ h1 (ne_of h1 g3 (fun y => memo_ne (fun φ z => by cases z) y.symm)), h2.mono fun r ys e => k _ _ e (ne_of e g3 (fun y => memo_ne (fun φ z => by cases z) y.symm))⟩
theorem Same.kpp {d : Addr} {H H' : Hp} (a : Same H H') : Kp d H H' := fun b o e _ => a b o e
theorem PlanAt.same {H H' : Hp} {r : Addr} {ms : List Mv} (h : PlanAt H r ms) (k : Same H H') : PlanAt H' r ms := by
  obtain ⟨xs, h1, h2⟩ := h
  exact ⟨xs, k _ _ h1, h2.mono fun r ys e => k _ _ e⟩
theorem Kp.free {d : Addr} {H H' : Hp} (k : Kp d H H') {b : Addr} (h : H' b = none) (hd : H' d ≠ none) : H b = none := by
  cases e : H b with
  | none => rfl
  | some o =>
    by_cases z : b = d
    · rw [z] at h
      exact absurd h hd
    · rw [k b o e z] at h
      cases h
theorem TabAt.dn {P : Program} {w : World} {C : Addr} {H : Hp} {p l d : Addr} {pr : List Int} (t : TabAt P w C H p l d pr) : H d ≠ none := by
  obtain ⟨_, _, ms, h3, _⟩ := t
  rw [h3]
  exact fun z => by cases z
theorem Oks.one {n k : Nat} (h1 : 1 ≤ k) (h2 : k ≤ n) : Oks n [.lay k] := fun m hm => by
  rw [List.mem_singleton.mp hm]
  exact ⟨h1, h2⟩
theorem ok_way {k D : Nat} {f g C C2 fL fS fB fC fW fH : Addr} {fd fdC fdW gd : FuncData} (F : Fun K "way" "Planner.way" sWay f fd) (X : TxT K mg C fL fS fB fC) (X2 : TxP K mg C2 fW fH)
    (GC : FnOk P w K mg base CX0 k fC fdC psT (spBest P w C 7)) (bC : Binds K fdC psT []) (GW : FnOk P w K mg base CX0 k fW fdW psT (spWay P w C C2 D)) (bW : Binds K fdW psT [])
    (GT : FnOk P w K mg base CX0 2 g gd ["plan"] spTurnP) (bT : Binds K gd ["plan"] []) (kT : PySem.W.keepIn K (.ref g) = true) (mT : mg "turned_plan" = some (.ref g)) (hk : 2 ≤ k) :
    FnOk P w K mg base CX0 (k + 1) f fd psT (spWay P w C C2 (D + 1)) := by
  refine F.ok scWay (fun vs H Q E h => ?_) (fun cdv A outer s0 H vs Q E hr h => ?_)
  · obtain ⟨pl, tp, l, d, pr, i, j, s, al, x, rfl, _⟩ := h
    rfl
  obtain ⟨pl, tp, l, d, pr, i, j, s, al, x, rfl, pa, t, h7, nn, hij, hj, hs7, hD, hx, q⟩ := h
  refine ⟨_, pss_cons (ps_if (pt_cmpR op_eq (pe_op op_sub (pv 2) (pv 1)) pe_int (nomark _)) (pss_one (ps_ret (pe_lst (pa_cons (pe_tup (pa_cons pe_str (pa_cons (pv 2) pa_nil))) pa_nil)))) pss_nil)
    (pss_cons (ps_set (i := 5) scWay.nd rfl (Or.inl rfl) (pe_meth (pe_fld (pv 0) rfl) X.cl X.mC GC hr bC .nil pass0 (pa_cons (pv 1) (pa_cons (pv 2) (pa_cons (pv 3) (pa_cons (pv 4) pa_nil))))))
    (pss_cons (ps_set (i := 6) scWay.nd rfl (Or.inl rfl) (pe_op op_cat (pe_meth (pv 0) X2.cl X2.mW GW hr bW .nil pass0 (pa_cons (pv 1) (pa_cons (pv 5) (pa_cons (pv 3) (pa_cons pe_bl pa_nil)))))
      (pe_meth (pv 0) X2.cl X2.mW GW hr bW .nil pass0 (pa_cons (pv 5) (pa_cons (pv 2) (pa_cons (pe_op op_sub (pv 3) pe_int) (pa_cons (pv 4) pa_nil)))))))
    (pss_cons (ps_if (pt_val (pv 4)) (pss_one (ps_set (i := 6) scWay.nd rfl (Or.inl rfl) (pe_op op_cat (pv 6) (pe_call GT (hr.mono hk) rfl mT kT bT .nil pass0 (pa_cons (pe_meth (pv 0) X2.cl X2.mW GW hr bW .nil pass0 (pa_cons (pv 1) (pa_cons (pv 5) (pa_cons (pe_op op_sub (pv 3) pe_int) (pa_cons pe_bl pa_nil))))) pa_nil))))) pss_nil)
    (pss_one (ps_ret (pv 6)))))), ?_⟩
  obtain ⟨dp, hp⟩ := id pa
  obtain ⟨⟨dx, ht⟩, hl, _⟩ := id t
  have hs0 : 1 ≤ s := by
    by_cases h0 : s = 0
    · rw [h0, T_zero (by omega) (by omega)] at hx
      cases hx
    · omega
  refine ⟨_, rfl, _, rfl, _, _, rfl, rfl, rfl, _, rfl, ?_⟩
  refine ite2 (fun c => ?_) (fun c => ?_)
  · have c1 : V.int ((j : Int) - (i : Int)) = V.int 1 := of_decide_eq_true c
    injection c1 with c1
    refine ⟨_, rfl, (by show 2 ≤ sizeLine; decide), fun t1 ht1 => ⟨(by show 1 ≤ sizeLine; decide), fun r hr1 => ?_⟩⟩
    have nrt : r ≠ t1 := fun e => by rw [e, upd_same] at hr1; cases hr1
    have hr0 : H r = none := by rw [upd_ne nrt] at hr1; exact hr1
    refine q r [.lay j] _ ((Kp.new ht1).trans (Kp.new hr1)) ((t.new ht1).new hr1) ⟨_, upd_same, .cons ⟨t1, rfl, by rw [upd_ne nrt.symm]; exact upd_same⟩ .nil⟩ hr0 ⟨Oks.one (by omega) hj, ?_, ?_⟩
    · have hi : i < pr.length := by omega
      have e1 : j - i = 1 := by omega
      have e2 : pr.drop i = pr[i] :: pr.drop (i + 1) := List.drop_eq_getElem_cons hi
      have nn2 := nn.drop i
      rw [e2] at nn2
      rw [e1, e2, T_one (by omega) (by omega) nn2] at hx
      have hx' := Option.some.inj hx
      show pr.getD (j - 1) 0 + 0 = x
      have e3 : j - 1 = i := by omega
      rw [e3, List.getD_eq_getElem?_getD, List.getElem?_eq_getElem hi, ← hx']
      simp
    · show 1 ≤ 3 ^ (j - i)
      exact Nat.one_le_pow _ _ (by decide)
  have c1 : ¬ V.int ((j : Int) - (i : Int)) = V.int 1 := of_decide_eq_false (Bool.eq_false_iff.mpr c)
  have c2 : (j : Int) - (i : Int) ≠ 1 := fun z => c1 (congrArg V.int z)
  refine ⟨_, rfl, pl, C2, dp, _, _, rfl, hp, X2.cl, X2.nT, fldsP_table _ _, tp, dx, _, rfl, ht, flds_no _ _ (by decide +kernel) (by decide +kernel), _, rfl, _, rfl, _, rfl, _, rfl, ?_⟩
  refine ⟨tp, l, d, pr, i, j, s, al, rfl, t, h7, nn, hij, hj, hs7, by omega, .inl (by omega), fun H1 k1 t1 => ⟨fun eT => absurd (hx.symm.trans eT) (fun z => nomatch z), fun m x' him hmj hs1 eT eb => ?_⟩⟩
  have ex : x' = x := by rw [hx] at eT; exact (Option.some.inj eT).symm
  subst ex
  obtain ⟨x1, x2, x3, ex1, ex2, ex3, exx⟩ := byc_parts eb
  have dd : (pr.drop i).drop (m - i) = pr.drop m := by rw [List.drop_drop]; congr 1; omega
  have dl : j - i - (m - i) = j - m := by omega
  rw [dd, dl] at ex2
  have npd : pl ≠ d := by
    obtain ⟨_, _, mm, g3, _⟩ := t
    exact ne_of hp g3 (fun y => memo_ne (fun φ z => by cases z) y.symm)
  have pa1 : PlAt C2 H1 pl tp pr.length := ⟨dp, k1 _ _ hp npd⟩
  have es : V.int ((s : Int) - 1) = V.int ((s - 1 : Nat) : Int) := congrArg V.int (by omega)
  refine ⟨_, rfl, pl, dp, _, rfl, k1 _ _ hp npd, fldsP_no _ _ (by decide +kernel) (by decide +kernel), _, rfl, _, rfl, _, rfl, ?_⟩
  refine ⟨pl, tp, l, d, pr, i, m, s, true, x1, rfl, pa1, t1, h7, nn, him, by omega, hs7, by omega, ex1, fun r1 ms1 H2 k2 t2 p1 n1 cs1 => ?_⟩
  have k12 := k1.trans k2
  have pa2 : PlAt C2 H2 pl tp pr.length := ⟨dp, k12 _ _ hp npd⟩
  refine ⟨_, rfl, pl, dp, _, rfl, k12 _ _ hp npd, fldsP_no _ _ (by decide +kernel) (by decide +kernel), _, rfl, _, rfl, _, rfl, _, _, rfl, rfl, _, rfl, ?_⟩
  refine ⟨pl, tp, l, d, pr, m, j, s - 1, al, x2, congrArg (fun z => [V.ref pl, V.int m, V.int j, z, V.bl al]) es, pa2, t2, h7, nn, hmj, hj, by omega, by omega, ex2, fun r2 ms2 H3 k3 t3 p2 n2 cs2 => ?_⟩
  have p13 : PlanAt H3 r1 ms1 := p1.kp t2 k3
  obtain ⟨xs1, g1, l1⟩ := id p13
  obtain ⟨xs2, g2, l2⟩ := id p2
  have len1 := l1.len
  have len2 := l2.len
  have hp3 := pow3 (a := m - i) (b := j - m) (d := j - i) (by omega) (by omega) (by omega)
  have h37 : 3 ^ (j - i) ≤ 2187 := by
    calc 3 ^ (j - i) ≤ 3 ^ 7 := Nat.pow_le_pow_right (by decide) (by omega)
    _ = 2187 := rfl
  have le1 := cs1.le
  have le2 := cs2.le
  refine ⟨r1, r2, xs1, xs2, rfl, rfl, g1, g2, by rw [sizeLine_eq]; omega, fun r3 hr3 => ?_⟩
  have k123 := k12.trans k3
  have p3 : PlanAt (upd H3 r3 (.lst (xs1 ++ xs2))) r3 (ms1 ++ ms2) := ⟨_, upd_same, (l1.app l2).mono (tup_new hr3)⟩
  have t4 := t3.new (o := .lst (xs1 ++ xs2)) hr3
  have k4 : Kp d H (upd H3 r3 (.lst (xs1 ++ xs2))) := k123.trans (Kp.new hr3)
  have hr30 : H r3 = none := k123.free hr3 t3.dn
  refine ⟨_, rfl, _, rfl, ?_⟩
  cases al with
  | false =>
    refine iteF ?_
    refine ⟨_, rfl, q r3 _ _ k4 t4 p3 hr30 ⟨cs1.ok.app cs2.ok, ?_, ?_⟩⟩
    · rw [cost_app, cs1.co, cs2.co, exx]
      simp
    · rw [List.length_append]
      omega
  | true =>
    refine iteT ?_
    have pa4 : PlAt C2 (upd H3 r3 (.lst (xs1 ++ xs2))) pl tp pr.length := ⟨dp, k4 _ _ hp npd⟩
    refine ⟨_, rfl, _, rfl, pl, dp, _, rfl, k4 _ _ hp npd, fldsP_no _ _ (by decide +kernel) (by decide +kernel), _, rfl, _, rfl, _, rfl, _, _, rfl, rfl, ?_⟩
    refine ⟨pl, tp, l, d, pr, i, m, s - 1, true, x3, congrArg (fun z => [V.ref pl, V.int i, V.int m, z, V.bl true]) es, pa4, t4, h7, nn, him, by omega, by omega, by omega, ex3 rfl, fun r5 ms5 H5 k5 t5 p5 n5 cs5 => ?_⟩
    have le5 := cs5.le
    refine ⟨r5, ms5, rfl, p5, by omega, fun r6 H6 s6 p6 => ?_⟩
    have p36 : PlanAt H6 r3 (ms1 ++ ms2) := (p3.kp t4 k5).same s6
    obtain ⟨ys1, y1, y2⟩ := p36
    obtain ⟨ys2, y3, y4⟩ := p6
    have ly1 := y2.len
    have ly2 := y4.len
    rw [turnP_length] at ly2
    rw [List.length_append] at ly1
    refine ⟨r3, r6, ys1, ys2, rfl, rfl, y1, y3, by rw [sizeLine_eq]; omega, fun r7 hr7 => ?_⟩
    have t6 : TabAt P w C H6 tp l d pr := t5.keep s6
    have k6 : Kp d H H6 := (k4.trans k5).trans (Same.kpp s6)
    refine ⟨_, rfl, q r7 ((ms1 ++ ms2) ++ turnP ms5) _ (k6.trans (Kp.new hr7)) (t6.new hr7) ⟨_, upd_same, (y2.app y4).mono (tup_new hr7)⟩ (k6.free hr7 t6.dn) ⟨(cs1.ok.app cs2.ok).app cs5.ok.turnP, ?_, ?_⟩⟩
    · rw [cost_app, cost_app, turnP_cost, cs1.co, cs2.co, cs5.co, exx]
      simp
    · rw [List.length_append, List.length_append, turnP_length]
      omega
theorem way_zero {f C C2 : Addr} {fd : FuncData} {k : Nat} : FnOk P w K mg base CX0 k f fd psT (spWay P w C C2 0) := by
  have no : ∀ vs H Q E, ¬ spWay P w C C2 0 vs H Q E := fun vs H Q E h => by
    obtain ⟨pl, tp, l, d, pr, i, j, s, al, x, _, _, _, _, _, h1, _, _, h2, _⟩ := h
    omega
  exact ⟨fun vs H Q E h => absurd h (no vs H Q E), fun A outer s H args us vs Q E _ _ _ _ h => absurd h (no vs H Q E)⟩
theorem all_way {k : Nat} {f g C C2 fL fS fB fC fH : Addr} {fd fdC gd : FuncData} (F : Fun K "way" "Planner.way" sWay f fd) (X : TxT K mg C fL fS fB fC) (X2 : TxP K mg C2 f fH)
    (GC : FnOk P w K mg base CX0 k fC fdC psT (spBest P w C 7)) (bC : Binds K fdC psT []) (bW : Binds K fd psT [])
    (GT : FnOk P w K mg base CX0 2 g gd ["plan"] spTurnP) (bT : Binds K gd ["plan"] []) (kT : PySem.W.keepIn K (.ref g) = true) (mT : mg "turned_plan" = some (.ref g)) (hk : 2 ≤ k) : ∀ D : Nat, FnOk P w K mg base CX0 (k + D) f fd psT (spWay P w C C2 D)
  | 0 => way_zero
  | D + 1 => ok_way F X X2 (GC.mono (Nat.le_add_right k D)) bC (all_way F X X2 GC bC bW GT bT kT mT hk D) bW GT bT kT mT (Nat.le_trans hk (Nat.le_add_right k D))
theorem scWhole : FnScope ["self", "s", "is_alone"] ["self", "s", "is_alone"] (defScope sWhole) := ⟨rfl, rfl, rfl, by decide +kernel, rfl, by decide +kernel, by decide +kernel⟩
theorem ok_whole {k : Nat} {f C C2 fL fS fB fC fW fH : Addr} {fd fdL fdW : FuncData} (F : Fun K "whole_way" "Planner.whole_way" sWhole f fd) (X : TxT K mg C fL fS fB fC) (X2 : TxP K mg C2 fW fH)
    (GL : FnOk P w K mg base CX0 k fL fdL psT (spLeast P w C 7)) (bL : Binds K fdL psT []) (GW : FnOk P w K mg base CX0 k fW fdW psT (spWay P w C C2 7)) (bW : Binds K fdW psT []) :
    FnOk P w K mg base CX0 (k + 1) f fd ["self", "s", "is_alone"] (spWhole P w C C2) := by
  refine F.ok scWhole (fun vs H Q E h => ?_) (fun cdv A outer s0 H vs Q E hr h => ?_)
  · obtain ⟨pl, tp, l, d, pr, s, al, rfl, _⟩ := h
    rfl
  obtain ⟨pl, tp, l, d, pr, s, al, rfl, pa, t, h1, h7, nn, hs7, q⟩ := h
  refine ⟨_, pss_cons (ps_if (pt_cmpR op_isN (pe_meth (pe_fld (pv 0) rfl) X.cl X.mL GL hr bL .nil pass0 (pa_cons pe_int (pa_cons (pe_fld (pv 0) rfl) (pa_cons (pv 1) (pa_cons (pv 2) pa_nil))))) pe_non (nomark _)) (pss_one (ps_ret pe_non)) pss_nil)
    (pss_one (ps_ret (pe_meth (pv 0) X2.cl X2.mW GW hr bW .nil pass0 (pa_cons pe_int (pa_cons (pe_fld (pv 0) rfl) (pa_cons (pv 1) (pa_cons (pv 2) pa_nil))))))), ?_⟩
  obtain ⟨dp, hp⟩ := id pa
  obtain ⟨⟨dx, ht⟩, hl, _⟩ := id t
  have npd : pl ≠ d := by
    obtain ⟨_, _, mm, g3, _⟩ := t
    exact ne_of hp g3 (fun y => memo_ne (fun φ z => by cases z) y.symm)
  refine ⟨_, rfl, pl, C2, dp, _, _, rfl, hp, X2.cl, X2.nT, fldsP_table _ _, tp, dx, _, rfl, ht, flds_no _ _ (by decide +kernel) (by decide +kernel), _, rfl, pl, C2, dp, _, _, rfl, hp, X2.cl, X2.nN, fldsP_n _ _, _, rfl, _, rfl, ?_⟩
  refine ⟨tp, l, d, pr, 0, pr.length, s, al, rfl, t, h7, nn, by omega, Nat.le_refl _, hs7, by omega, fun H1 k1 t1 => ?_⟩
  have e0 : ofO (T s (pr.length - 0) al (pr.drop 0)) = ofO (T s pr.length al pr) := rfl
  rw [e0]
  obtain ⟨q1, q2⟩ := q H1 k1
  cases eT : T s pr.length al pr with
  | none => exact ⟨rfl, _, rfl, iteT (q1 eT)⟩
  | some x =>
    refine ⟨rfl, _, rfl, iteF ?_⟩
    have hp1 := k1 _ _ hp npd
    refine ⟨_, rfl, pl, dp, _, rfl, hp1, fldsP_no _ _ (by decide +kernel) (by decide +kernel), _, rfl, pl, C2, dp, _, _, rfl, hp1, X2.cl, X2.nN, fldsP_n _ _, _, rfl, _, rfl, ?_⟩
    refine ⟨pl, tp, l, d, pr, 0, pr.length, s, al, x, rfl, ⟨dp, hp1⟩, t1, h7, nn, by omega, Nat.le_refl _, hs7, by omega, eT, fun r ms H2 k2 t2 p2 _ cs => ?_⟩
    refine (q H2 (k1.trans k2)).2 r ms x eT p2 ⟨cs.ok, cs.co, Nat.le_trans cs.le ?_⟩
    calc 3 ^ (pr.length - 0) ≤ 3 ^ 7 := Nat.pow_le_pow_right (by decide) (by omega)
    _ = 2187 := rfl
end
end K38
/-! K38: left_plan, shown_plan. -/
namespace K38
open PySem PySem.Spec PyProof.Rows L2
section
variable {P : Program} {w : World} {K : PySem.W.Frag} {mg : Str → Option Value} {base : Heap}
theorem scLeft : FnScope ["costs", "s"] ["costs", "s"] (defScope sLeft) := ⟨rfl, rfl, rfl, by decide +kernel, rfl, by decide +kernel, by decide +kernel⟩
theorem ok_left {k : Nat} {f C C2 fI fW fH : Addr} {fd fdI fdH : FuncData} (F : Fun K "left_plan" "left_plan" sLeft f fd) (X2 : TxP K mg C2 fW fH) (M : Mk K C2 fI) (GI : FnOk P w K mg base CX0 3 fI fdI ["self", "costs"] (spPInit P w K C C2)) (bI : Binds K fdI ["self", "costs"] [])
    (GH : FnOk P w K mg base CX0 k fH fdH ["self", "s", "is_alone"] (spWhole P w C C2)) (bH : Binds K fdH ["self", "s", "is_alone"] []) (hk : 4 ≤ k) : FnOk P w K mg base CX0 (k + 1) f fd ["costs", "s"] (spPlan K true fun x => x) := by
  refine F.ok scLeft (fun vs H Q E h => ?_) (fun cdv A outer s0 H vs Q E hr h => ?_)
  · obtain ⟨a, pr, s, rfl, _⟩ := h
    rfl
  obtain ⟨a, pr, s, rfl, hS, h1, h7, nn, hs7, q⟩ := h
  refine ⟨_, pss_one (ps_ret (pe_meth (pl := plainOf _ _) (pe_make M GI (hr.mono hk) rfl X2.mgP bI .nil pass0 (pa_cons (pv 0) pa_nil)) X2.cl X2.mH GH hr bH .nil pass0
    (pa_cons (pv 1) (pa_cons pe_bl pa_nil))
    (ht := mcall_of (by rfl) fun ov => mcall_line (by rfl) (by decide)))), ?_⟩
  refine ⟨_, rfl, fun x dx nx ndx nex => ?_⟩
  have s0' : Same H (upd (upd H dx (.own x)) x (.ins C2 dx [])) := fun b o e => by rw [upd_ne (ne_of_none e nx), upd_ne (ne_of_none e ndx)]; exact e
  refine ⟨x, dx, a, pr, rfl, upd_same, s0'.seq hS, fun tp l d H1 hd t1 pa1 k1 => ⟨rfl, ?_⟩⟩
  have s1 : Same H H1 := same_made nx ndx k1
  have hd0 : H d = none := s0'.free hd
  obtain ⟨dp, hp1⟩ := id pa1
  refine ⟨x, dp, _, rfl, hp1, fldsP_no _ _ (by decide +kernel) (by decide +kernel), _, rfl, ?_⟩
  refine ⟨x, tp, l, d, pr, s, true, rfl, pa1, t1, h1, h7, nn, hs7, fun H2 k2 => ?_⟩
  obtain ⟨q1, q2⟩ := q H2 (Same.kp s1 k2 hd0)
  exact ⟨q1, fun r ms y eT p2 cs => q2 r ms y eT p2 ⟨cs.ok, cs.co, Nat.le_trans cs.le (by decide)⟩⟩
theorem scShown : FnScope ["costs", "s", "there"] ["costs", "s"] (defScope sShown) := ⟨rfl, rfl, rfl, by decide +kernel, rfl, by decide +kernel, by decide +kernel⟩
theorem ok_shown {k : Nat} {f g C C2 fI fW fH : Addr} {fd fdI fdH gd : FuncData} (F : Fun K "shown_plan" "shown_plan" sShown f fd) (X2 : TxP K mg C2 fW fH) (M : Mk K C2 fI) (GI : FnOk P w K mg base CX0 3 fI fdI ["self", "costs"] (spPInit P w K C C2)) (bI : Binds K fdI ["self", "costs"] [])
    (GH : FnOk P w K mg base CX0 k fH fdH ["self", "s", "is_alone"] (spWhole P w C C2)) (bH : Binds K fdH ["self", "s", "is_alone"] []) (hk : 4 ≤ k)
    (GT : FnOk P w K mg base CX0 2 g gd ["plan"] spTurnP) (bT : Binds K gd ["plan"] []) (kT : PySem.W.keepIn K (.ref g) = true) (mT : mg "turned_plan" = some (.ref g)) : FnOk P w K mg base CX0 (k + 1) f fd ["costs", "s"] (spPlan K false fun x => 2 * x) := by
  refine F.ok scShown (fun vs H Q E h => ?_) (fun cdv A outer s0 H vs Q E hr h => ?_)
  · obtain ⟨a, pr, s, rfl, _⟩ := h
    rfl
  obtain ⟨a, pr, s, rfl, hS, h1, h7, nn, hs7, q⟩ := h
  refine ⟨_, pss_cons (ps_set (i := 2) scShown.nd rfl (Or.inl rfl) (pe_meth (pl := plainOf _ _) (pe_make M GI (hr.mono hk) rfl X2.mgP bI .nil pass0 (pa_cons (pv 0) pa_nil)) X2.cl X2.mH GH hr bH .nil pass0
      (pa_cons (pv 1) (pa_cons pe_bl pa_nil))
      (ht := mcall_of (by rfl) fun ov => mcall_line (by rfl) (by decide))))
    (pss_cons (ps_if (pt_cmpR op_isN (pv 2) pe_non (nomark _)) (pss_one (ps_ret pe_non)) pss_nil)
    (pss_one (ps_ret (pe_op op_cat (pe_op op_cat (pv 2) (pe_lst (pa_cons (pe_tup (pa_cons pe_str pa_nil)) pa_nil))) (pe_call GT (hr.mono (by omega)) rfl mT kT bT .nil pass0 (pa_cons (pv 2) pa_nil)))))), ?_⟩
  refine ⟨_, rfl, fun x dx nx ndx nex => ?_⟩
  have s0' : Same H (upd (upd H dx (.own x)) x (.ins C2 dx [])) := fun b o e => by rw [upd_ne (ne_of_none e nx), upd_ne (ne_of_none e ndx)]; exact e
  refine ⟨x, dx, a, pr, rfl, upd_same, s0'.seq hS, fun tp l d H1 hd t1 pa1 k1 => ⟨rfl, ?_⟩⟩
  have s1 : Same H H1 := same_made nx ndx k1
  have hd0 : H d = none := s0'.free hd
  obtain ⟨dp, hp1⟩ := id pa1
  refine ⟨x, dp, _, rfl, hp1, fldsP_no _ _ (by decide +kernel) (by decide +kernel), _, rfl, ?_⟩
  refine ⟨x, tp, l, d, pr, s, false, rfl, pa1, t1, h1, h7, nn, hs7, fun H2 k2 => ?_⟩
  have s2 := Same.kp s1 k2 hd0
  refine ⟨fun eT => ?_, fun r ms y eT p2 cs => ?_⟩
  · exact ⟨_, rfl, rfl, _, rfl, iteT ((q H2 s2).1 eT)⟩
  refine ⟨_, rfl, rfl, _, rfl, iteF ?_⟩
  obtain ⟨xs, g1, l1⟩ := id p2
  have len1 := l1.len
  have le1 := cs.le
  refine ⟨_, rfl, (by show 1 ≤ sizeLine; decide), fun t ht => ⟨(by show 1 ≤ sizeLine; decide), fun z hz => ?_⟩⟩
  have nzt : z ≠ t := fun e => by rw [e, upd_same] at hz; cases hz
  have hz0 : H2 z = none := by rw [upd_ne nzt] at hz; exact hz
  have nrt : r ≠ t := ne_of_none g1 ht
  have nrz : r ≠ z := ne_of_none g1 hz0
  have s3 : Same H2 (upd (upd H2 t (.tup [.str "show"])) z (.lst [.ref t])) := (same_new ht _).trans (same_new hz _)
  have l13 := (p2.same s3)
  refine ⟨r, z, xs, [.ref t], rfl, rfl, s3 _ _ g1, upd_same, by rw [sizeLine_eq]; show xs.length + 1 ≤ _; omega, fun u hu => ?_⟩
  have ht3 : (upd (upd H2 t (.tup [.str "show"])) z (.lst [.ref t])) t = some (.tup (Mv.sho).vs) := by rw [upd_ne nzt.symm]; exact upd_same
  have pl3 : PlanL (upd (upd H2 t (.tup [.str "show"])) z (.lst [.ref t])) (xs ++ [.ref t]) (ms ++ [.sho]) := PlanL.app (l1.mono fun r ys e => s3 _ _ e) (.cons ⟨t, rfl, ht3⟩ .nil)
  have s4 := s3.trans (same_new hu (.lst (xs ++ [.ref t])))
  have p24 := p2.same s4
  refine ⟨_, rfl, r, ms, rfl, p24, by omega, fun v H5 s5 p5 => ?_⟩
  obtain ⟨ys, y1, y2⟩ := p5
  have len2 := y2.len
  rw [turnP_length] at len2
  have hu5 := s5 _ _ (upd_same (H := upd (upd H2 t (.tup [.str "show"])) z (.lst [.ref t])) (a := u) (o := .lst (xs ++ [.ref t])))
  refine ⟨u, v, xs ++ [.ref t], ys, rfl, rfl, hu5, y1, by rw [sizeLine_eq, List.length_append]; show xs.length + 1 + ys.length ≤ _; omega, fun o ho => ?_⟩
  have pl5 : PlanL H5 (xs ++ [.ref t]) (ms ++ [.sho]) := (pl3.mono (tup_new hu)).mono fun r ys e => s5 _ _ e
  refine (q _ ((s2.trans s4).trans (s5.trans (same_new ho _)))).2 o ((ms ++ [.sho]) ++ turnP ms) y eT ⟨_, upd_same, (pl5.app y2).mono (tup_new ho)⟩ ⟨(cs.ok.app fun m hm => by rw [List.mem_singleton.mp hm]; trivial).app cs.ok.turnP, ?_, ?_⟩
  · rw [cost_app, cost_app, turnP_cost, cs.co]
    show y + (0 + 0) + y = 2 * y
    omega
  · rw [List.length_append, List.length_append, turnP_length]
    show ms.length + 1 + ms.length ≤ 5000
    omega
end
end K38
/-! K38: the law's draws. -/
namespace K38
open PySem PySem.Spec PyProof.Rows L2
abbrev sDraw : Stmt := top 15
abbrev sCosts : Stmt := top 16
abbrev sMany : Stmt := top 17
abbrev sNext : Stmt := top 18
abbrev sFar : Stmt := top 19
abbrev sCost : Stmt := top 20
abbrev sLaw : Stmt := top 21
/-- the script's list is not the state's -/
theorem seq_kp {K : PySem.W.Frag} {H H' : Hp} {a b p : Addr} {ns : List Int} {r : List V} (h : SqL K H a (ns.map V.int)) (hp : H p = some (.lst (.ref b :: r))) (k : Kp p H H') : SqL K H' a (ns.map V.int) := by
  rcases h with (h | ⟨o, h⟩) | h
  · refine .inl (.inl (k _ _ h fun e => ?_))
    rw [e, hp] at h
    injection h with h
    injection h with h
    cases ns with
    | nil => cases h
    | cons x r => injection h with h1 h2; cases h1
  · refine .inl (.inr ⟨o, k _ _ h fun e => ?_⟩)
    rw [e, hp] at h
    cases h
  · exact .inr h
def spDraw (K : PySem.W.Frag) : Sp := fun vs H Q _ => ∃ (p a : Addr) (ns : List Int) (k : Nat) (r m : Int), vs = [.ref p, .int m] ∧ H p = some (.lst [.ref a, .int k, .int r]) ∧ SqL K H a (ns.map V.int) ∧ 0 ≤ r ∧ 1 ≤ m ∧ m ≤ 1000000000 ∧
  ∀ (d : Int) (k' : Nat) (r' : Int) (H' : Hp), 0 ≤ d → d < m → 0 ≤ r' → H' p = some (.lst [.ref a, .int k', .int r']) → Kp p H H' → Q (.int d) H'
section
variable {P : Program} {w : World} {K : PySem.W.Frag} {mg : Str → Option Value} {base : Heap}
theorem scDraw : FnScope ["_law_state", "_law_many_here", "_law_script", "_law_k", "_law_rest", "_law_cell", "_law_number", "_law_digit"] ["_law_state", "_law_many_here"] (defScope sDraw) := ⟨rfl, rfl, rfl, by decide +kernel, rfl, by decide +kernel, by decide +kernel⟩
theorem mod_lt' (a : Int) {b : Int} (h : 0 < b) : a % b < b := Int.emod_lt_of_pos a h
theorem mod_nn (a : Int) {b : Int} (h : 0 < b) : 0 ≤ a % b := Int.emod_nonneg a (by omega)
theorem ok_draw {f : Addr} {fd : FuncData} (F : Fun K "_law_draw" "_law_draw" sDraw f fd) (ml : mg "len" = none) (ma : mg "abs" = none) (md : mg "divmod" = none) : FnOk P w K mg base CX0 1 f fd ["_law_state", "_law_many_here"] (spDraw K) := by
  refine F.ok scDraw (fun vs H Q E h => ?_) (fun cdv A outer s0 H vs Q E hr h => ?_)
  · obtain ⟨p, a, ns, k, r, m, rfl, _⟩ := h
    rfl
  obtain ⟨p, a, ns, k, r, m, rfl, hp, hS, hr0, hm1, hm2, q⟩ := h
  refine ⟨_, pss_cons (ps_asg (pv 0) (pg_unl rfl (pgs_cons (pg_name (i := 2) scDraw.nd rfl (Or.inl rfl)) (pgs_cons (pg_name (i := 3) scDraw.nd rfl (Or.inl rfl)) (pgs_cons (pg_name (i := 4) scDraw.nd rfl (Or.inl rfl)) pgs_nil)))))
    (pss_cons (ps_if (pt_cmpR op_eq (pv 4) pe_int (nomark _))
      (pss_cons (ps_asg (pe_op op_add (pv 3) pe_int) (pg_sub (pv 0) pe_int set_list))
      (pss_cons (ps_set (i := 5) scDraw.nd rfl (Or.inl rfl) (pe_op op_add (pe_op op_mul pe_int (pv 3)) pe_int))
      (pss_cons (ps_if (pt_cmpR op_gt (pe_callB call_len_seq (by rfl) ml PySem.boot_len (pa_cons (pv 2) pa_nil)) pe_int (nomark _))
        (pss_one (ps_set (i := 5) scDraw.nd rfl (Or.inl rfl) (pe_ix ix_list (pv 2) (pe_op op_mod (pv 3) (pe_callB call_len_seq (by rfl) ml PySem.boot_len (pa_cons (pv 2) pa_nil))) (fun _ _ => rfl)))) pss_nil)
      (pss_cons (ps_set (i := 4) scDraw.nd rfl (Or.inl rfl) (pe_callB call_abs (by rfl) ma (by decide +kernel) (pa_cons (pv 5) pa_nil)))
      (pss_one (ps_if (PW.pt (pw_or (pt_cmpR op_ge (pv 3) (pe_callB call_len_seq (by rfl) ml PySem.boot_len (pa_cons (pv 2) pa_nil)) (nomark _)) (pw_or1 (pt_cmpR op_lt (pv 4) (pe_op op_pow pe_int pe_int) (nomark _)))))
        (pss_cons (ps_set (i := 6) scDraw.nd rfl (Or.inl rfl) (pe_op op_mod (pe_op op_add (pe_op op_add (pe_op op_mul (pe_op op_mod (pv 5) pe_int) (pe_op op_add pe_int (pv 3))) (pe_op op_mul pe_int (pv 3))) pe_int) pe_int))
        (pss_cons (ps_set (i := 6) scDraw.nd rfl (Or.inl rfl) (pe_op op_mod (pe_op op_mul (pv 6) (pv 6)) pe_int))
        (pss_one (ps_ret (pe_op op_mod (pe_op op_mod (pe_op op_mul (pv 6) (pv 6)) pe_int) (pv 1)))))) pss_nil)))))) pss_nil)
    (pss_cons (ps_asg (pe_callB call_divmod (by rfl) md (by decide +kernel) (pa_cons (pv 4) (pa_cons (pv 1) pa_nil))) (pg_tup rfl (pgs_cons (pg_sub (pv 0) pe_int set_list) (pgs_cons (pg_name (i := 7) scDraw.nd rfl (Or.inl rfl)) pgs_nil))))
    (pss_one (ps_ret (pv 7))))), ?_⟩
  refine ⟨_, rfl, p, _, rfl, SqL.of hp, rfl, _, _, rfl, _, _, rfl, _, _, rfl, rfl, ?_⟩
  refine ⟨_, rfl, rfl, _, rfl, ?_⟩
  refine ite2 (fun c => ?_) (fun c => ?_)
  · -- a fresh cell
    refine ⟨_, rfl, _, _, rfl, rfl, _, rfl, p, _, _, 1, rfl, rfl, hp, rfl, ?_⟩
    have k1 : Kp p H (upd H p (.lst ([V.ref a, .int k, .int r].set 1 (.int ((k : Int) + 1))))) := Kp.upd p H _
    have hS1 := seq_kp hS hp k1
    refine ⟨_, rfl, _, _, rfl, rfl, .inl ⟨by decide, by decide⟩, _, _, rfl, rfl, ?_⟩
    -- the cell, whatever it is
    have go : ∀ cell : Int, tSeq (tAsg (tCB (fun xs H Q => ∃ i, xs = [.int i] ∧ Q (.int (if i < 0 then -i else i)) H) (tCons (tVar 5) tNil)) (gName 4))
        (tIfS (tOr (tTest (tOp (rI0 fun i j => .bl (decide (j ≤ i))) (tVar 3) (tCB (fun xs H Q => ∃ p ys, xs = [.ref p] ∧ (SqL K H p ys ∨ SqT K H p ys) ∧ Q (.int ys.length) H) (tCons (tVar 2) tNil)))) (tTest (tOp (rI0 fun i j => .bl (decide (i < j))) (tVar 4) (tOp (rI CPow fun i j => .int (i ^ j.toNat)) (tC (.int 10)) (tC (.int 18))))))
          (tSeq (tAsg (tOp (rI (fun _ j => 0 < j) fun i j => .int (i % j)) (tOp (rI0 fun i j => .int (i + j)) (tOp (rI0 fun i j => .int (i + j)) (tOp (rI CMul fun i j => .int (i * j)) (tOp (rI (fun _ j => 0 < j) fun i j => .int (i % j)) (tVar 5) (tC (.int 2147483629))) (tOp (rI0 fun i j => .int (i + j)) (tC (.int 48271)) (tVar 3))) (tOp (rI CMul fun i j => .int (i * j)) (tC (.int 7919)) (tVar 3))) (tC (.int 13))) (tC (.int 2147483629))) (gName 6))
            (tSeq (tAsg (tOp (rI (fun _ j => 0 < j) fun i j => .int (i % j)) (tOp (rI CMul fun i j => .int (i * j)) (tVar 6) (tVar 6)) (tC (.int 2147483587))) (gName 6))
              (tRet (tOp (rI (fun _ j => 0 < j) fun i j => .int (i % j)) (tOp (rI (fun _ j => 0 < j) fun i j => .int (i % j)) (tOp (rI CMul fun i j => .int (i * j)) (tVar 6) (tVar 6)) (tC (.int 1999999973))) (tVar 1))))) tNext)
        { nx := tSeq (tAsg (tCB (fun xs H Q => ∃ i j, xs = [.int i, .int j] ∧ CDiv i j ∧ ∀ p, H p = none → Q (.ref p) (upd H p (.tup [.int (i / j), .int (i % j)]))) (tCons (tVar 4) (tCons (tVar 1) tNil))) (gTup K 2 (gCons (gSub (tVar 0) (tC (.int 2)) rSetL) (gCons (gName 7) gNil)))) (tRet (tVar 7)) { nx := fun _ H' => Q .non H', rt := Q }, rt := Q }
        [some (.ref p), some (.int m), some (.ref a), some (.int k), some (.int r), some (.int cell), none, none] (upd H p (.lst ([V.ref a, .int k, .int r].set 1 (.int ((k : Int) + 1))))) := by
      intro cell
      refine ⟨_, rfl, _, rfl, ?_⟩
      have habs : 0 ≤ (if cell < 0 then -cell else cell) := by split <;> omega
      generalize (if cell < 0 then -cell else cell) = R at habs
      -- what happens when a number is drawn
      have drawn : ∀ σ4 : Option V, tSeq (tAsg (tOp (rI (fun _ j => 0 < j) fun i j => .int (i % j)) (tOp (rI0 fun i j => .int (i + j)) (tOp (rI0 fun i j => .int (i + j)) (tOp (rI CMul fun i j => .int (i * j)) (tOp (rI (fun _ j => 0 < j) fun i j => .int (i % j)) (tVar 5) (tC (.int 2147483629))) (tOp (rI0 fun i j => .int (i + j)) (tC (.int 48271)) (tVar 3))) (tOp (rI CMul fun i j => .int (i * j)) (tC (.int 7919)) (tVar 3))) (tC (.int 13))) (tC (.int 2147483629))) (gName 6))
            (tSeq (tAsg (tOp (rI (fun _ j => 0 < j) fun i j => .int (i % j)) (tOp (rI CMul fun i j => .int (i * j)) (tVar 6) (tVar 6)) (tC (.int 2147483587))) (gName 6))
              (tRet (tOp (rI (fun _ j => 0 < j) fun i j => .int (i % j)) (tOp (rI (fun _ j => 0 < j) fun i j => .int (i % j)) (tOp (rI CMul fun i j => .int (i * j)) (tVar 6) (tVar 6)) (tC (.int 1999999973))) (tVar 1))))
          { nx := tSeq (tAsg (tCB (fun xs H Q => ∃ i j, xs = [.int i, .int j] ∧ CDiv i j ∧ ∀ p, H p = none → Q (.ref p) (upd H p (.tup [.int (i / j), .int (i % j)]))) (tCons (tVar 4) (tCons (tVar 1) tNil))) (gTup K 2 (gCons (gSub (tVar 0) (tC (.int 2)) rSetL) (gCons (gName 7) gNil)))) (tRet (tVar 7)) { nx := fun _ H' => Q .non H', rt := Q }, rt := Q }
          [some (.ref p), some (.int m), some (.ref a), some (.int k), σ4, some (.int cell), none, none] (upd H p (.lst ([V.ref a, .int k, .int r].set 1 (.int ((k : Int) + 1))))) := by
        intro σ4
        have h1 := mod_lt' cell (b := 2147483629) (by decide)
        have h2 := mod_nn cell (b := 2147483629) (by decide)
        refine ⟨_, rfl, _, _, rfl, rfl, (by show (0 : Int) < 2147483629; decide), _, rfl, _, _, rfl, rfl, _, _, rfl, rfl, .inl ⟨by omega, by omega⟩, _, rfl, _, _, rfl, rfl, .inl ⟨by decide, by decide⟩, _, _, rfl, rfl, _, _, rfl, rfl, _, _, rfl, rfl, (by show (0 : Int) < 2147483629; decide), ?_⟩
        have h3 := mod_lt' (cell % 2147483629 * (48271 + (k : Int)) + 7919 * (k : Int) + 13) (b := 2147483629) (by decide)
        have h4 := mod_nn (cell % 2147483629 * (48271 + (k : Int)) + 7919 * (k : Int) + 13) (b := 2147483629) (by decide)
        generalize (cell % 2147483629 * (48271 + (k : Int)) + 7919 * (k : Int) + 13) % 2147483629 = n1 at h3 h4
        refine ⟨_, rfl, _, rfl, _, _, rfl, rfl, .inl ⟨by omega, by omega⟩, _, _, rfl, rfl, (by show (0 : Int) < 2147483587; decide), ?_⟩
        have h5 := mod_lt' (n1 * n1) (b := 2147483587) (by decide)
        have h6 := mod_nn (n1 * n1) (b := 2147483587) (by decide)
        generalize n1 * n1 % 2147483587 = n2 at h5 h6
        refine ⟨_, rfl, _, rfl, _, _, rfl, rfl, .inl ⟨by omega, by omega⟩, _, _, rfl, rfl, (by show (0 : Int) < 1999999973; decide), _, rfl, _, _, rfl, rfl, (by show 0 < m; omega), ?_⟩
        exact q _ (k + 1) r _ (mod_nn _ (by omega)) (mod_lt' _ (by omega)) hr0 upd_same k1
      refine ⟨_, rfl, _, rfl, a, _, rfl, .inl hS1, _, _, rfl, rfl, _, rfl, ?_⟩
      refine ite2 (fun c1 => ?_) (fun c1 => ?_)
      · exact iteT (drawn _)
      refine ⟨_, rfl, _, _, rfl, rfl, ⟨by decide, by decide, by decide⟩, _, _, rfl, rfl, _, rfl, ?_⟩
      refine ite2 (fun c2 => ?_) (fun c2 => ?_)
      · exact drawn _
      · -- the cell's digits
        refine ⟨_, rfl, _, rfl, _, _, rfl, ⟨by omega, by omega⟩, fun t ht => ?_⟩
        have ntp : p ≠ t := fun e => by rw [← e, upd_same] at ht; cases ht
        refine ⟨t, _, rfl, SqT.of upd_same, rfl, _, _, rfl, _, rfl, p, _, _, 2, rfl, rfl, (by rw [upd_ne ntp]; exact upd_same), rfl, _, _, rfl, rfl, ?_⟩
        refine ⟨_, rfl, ?_⟩
        refine q (R % m) (k + 1) (R / m) _ (mod_nn _ (by omega)) (mod_lt' _ (by omega)) (Int.ediv_nonneg habs (by omega)) upd_same fun b o e n => ?_
        rw [upd_ne n, upd_ne (ne_of_none (k1 b o e n) ht)]
        exact k1 b o e n
    refine ⟨_, rfl, a, _, rfl, .inl hS1, _, _, rfl, rfl, _, rfl, ?_⟩
    refine ite2 (fun c1 => ?_) (fun c1 => ?_)
    · have c2 : (0 : Int) < ((ns.map V.int).length : Nat) := of_decide_eq_true c1
      rw [List.length_map] at c2
      have hpos : 0 < ns.length := by omega
      have hlt : k % ns.length < ns.length := Nat.mod_lt _ hpos
      refine ⟨_, rfl, _, rfl, _, rfl, a, _, rfl, .inl hS1, _, _, rfl, rfl, (by rw [List.length_map]; exact c2), a, _, _, .int ns[k % ns.length], rfl, rfl, hS1, ?_, ?_⟩
      · refine at_of (j := k % ns.length) ?_ ?_
        · rw [List.length_map]
          exact (Int.natCast_emod k ns.length).symm
        · rw [List.getElem?_map, List.getElem?_eq_getElem hlt] <;> rfl
      · exact go ns[k % ns.length]
    · exact go _
  · -- digits of what is left
    refine ⟨_, rfl, _, rfl, _, _, rfl, ⟨by omega, by omega⟩, fun t ht => ?_⟩
    have ntp : p ≠ t := ne_of_none hp ht
    refine ⟨t, _, rfl, SqT.of upd_same, rfl, _, _, rfl, _, rfl, p, _, _, 2, rfl, rfl, (by rw [upd_ne ntp]; exact hp), rfl, _, _, rfl, rfl, ?_⟩
    refine ⟨_, rfl, ?_⟩
    refine q (r % m) k (r / m) _ (mod_nn _ (by omega)) (mod_lt' _ (by omega)) (Int.ediv_nonneg hr0 (by omega)) upd_same fun b o e n => ?_
    rw [upd_ne n, upd_ne (ne_of_none e ht)]
    exact e
end
end K38
/-! K38: the law's costs. -/
namespace K38
open PySem PySem.Spec PyProof.Rows L2
def Price (x : Int) : Prop := 1 ≤ x ∧ x ≤ 1000000000
def spCosts (K : PySem.W.Frag) : Sp := fun vs H Q _ => ∃ (p a : Addr) (ns : List Int) (k : Nat) (r : Int) (n : Nat), vs = [.ref p, .int n] ∧ H p = some (.lst [.ref a, .int k, .int r]) ∧ SqL K H a (ns.map V.int) ∧ 0 ≤ r ∧ 1 ≤ n ∧ n ≤ 7 ∧
  ∀ (l : Addr) (pr : List Int) (H' : Hp), pr.length = n → (∀ x, x ∈ pr → Price x) → H' l = some (.lst (pr.map V.int)) → H l = none → Kp p H H' → Q (.ref l) H'
section
variable {P : Program} {w : World} {K : PySem.W.Frag} {mg : Str → Option Value} {base : Heap}
theorem scCosts : FnScope ["_law_state", "_law_n", "_law_sort", "_law_k"] ["_law_state", "_law_n"] (defScope sCosts) := ⟨rfl, rfl, rfl, by decide +kernel, rfl, by decide +kernel, by decide +kernel⟩
/-- the invariant of the three comprehensions -/
def PvC (H : Hp) (p a D : Addr) (i : Nat) (H1 : Hp) : Prop := ∃ (pr : List Int) (k' : Nat) (r' : Int), H1 D = some (.lst (pr.map V.int)) ∧ pr.length = i ∧ (∀ x, x ∈ pr → Price x) ∧ H1 p = some (.lst [.ref a, .int k', .int r']) ∧ 0 ≤ r' ∧ Kp p H H1
theorem pvc_start {H : Hp} {p a D : Addr} {k : Nat} {r : Int} (hr : 0 ≤ r) {G : Hp} (hG : G p = some (.lst [.ref a, .int k, .int r])) (kG : Kp p H G) (hD : G D = none) : PvC H p a D 0 (upd G D (.lst [])) :=
  ⟨[], k, r, upd_same, rfl, fun x h => (nomatch h), by rw [upd_ne (ne_of_none hG hD)]; exact hG, hr, kG.trans (Kp.new hD)⟩
theorem pvc_step {H H1 H2 : Hp} {p a D : Addr} {i : Nat} {pr : List Int} {k' : Nat} {r' x : Int} (hD : H D = none) (h1 : H1 D = some (.lst (pr.map V.int))) (hl : pr.length = i) (ha : ∀ y, y ∈ pr → Price y) (hk : Kp p H H1) (hp1 : H1 p ≠ some (.lst (pr.map V.int)))
    (hp2 : H2 p = some (.lst [.ref a, .int k', .int r'])) (hr : 0 ≤ r') (k12 : Kp p H1 H2) (hx : Price x) (hi : i < 100) :
    ∃ acc, H2 D = some (.lst acc) ∧ acc.length < sizeLine ∧ PvC H p a D (i + 1) (upd H2 D (.lst (acc ++ [V.int x]))) := by
  have nDp : D ≠ p := fun e => hp1 (by rw [← e]; exact h1)
  refine ⟨pr.map V.int, k12 _ _ h1 nDp, by rw [List.length_map, sizeLine_eq]; omega, pr ++ [x], k', r', ?_, ?_, fun y hy => ?_, ?_, hr, fun b o e n => ?_⟩
  · rw [upd_same, List.map_append]
    all_goals rfl
  · rw [List.length_append, hl] <;> rfl
  · rcases List.mem_append.mp hy with h | h
    · exact ha y h
    · rw [List.mem_singleton.mp h]
      exact hx
  · rw [upd_ne nDp.symm]
    exact hp2
  · rw [upd_ne (ne_of_none e hD)]
    exact k12 _ _ (hk _ _ e n) n
theorem st_ne {a : Addr} {x y : V} {pr : List Int} : ¬ (some (HO.lst [V.ref a, x, y]) = some (HO.lst (pr.map V.int))) := fun e => by
  injection e with e
  injection e with e
  cases pr with
  | nil => cases e
  | cons z r => injection e with h1 h2; cases h1
theorem ok_costs {f g : Addr} {fd gd : FuncData} (F : Fun K "_law_costs" "_law_costs" sCosts f fd) (G : FnOk P w K mg base CX0 1 g gd ["_law_state", "_law_many_here"] (spDraw K)) (bG : Binds K gd ["_law_state", "_law_many_here"] []) (kG : PySem.W.keepIn K (.ref g) = true) (mG : mg "_law_draw" = some (.ref g)) (mr : mg "range" = none) :
    FnOk P w K mg base CX0 2 f fd ["_law_state", "_law_n"] (spCosts K) := by
  refine F.ok scCosts (fun vs H Q E h => ?_) (fun cdv A outer s0 H vs Q E hr h => ?_)
  · obtain ⟨p, a, ns, k, r, n, rfl, _⟩ := h
    rfl
  obtain ⟨p, a, ns, k, r, n, rfl, hp, hS, hr0, hn1, hn7, q⟩ := h
  refine ⟨_, pss_cons (ps_set (i := 2) scCosts.nd rfl (Or.inl rfl) (pe_call G hr rfl mG kG bG .nil pass0 (pa_cons (pv 0) (pa_cons pe_int pa_nil))))
    (pss_cons (ps_if (pt_cmpR op_eq (pv 2) pe_int (nomark _)) (pss_one (ps_ret (pe_lc (own := [("_law_k", 3)]) (g := gName 3) (tt := tYes) rfl scCosts.nd (pi_range1 (by rfl) mr (pa_cons (pv 1) pa_nil)) (blkOk_by (own := [("_law_k", 3)]) (N := ["_law_state", "_law_n", "_law_sort", "_law_k"]) (sc := defScope sCosts) (by decide +kernel))
        (fun _ _ _ _ _ => pg_name (i := 3) scCosts.nd rfl (Or.inl rfl)) (fun _ _ _ _ _ => pts_nil) (fun _ _ _ _ _ => pe_op op_add pe_int (pe_call G hr rfl mG kG bG .nil pass0 (pa_cons (pv 0) (pa_cons pe_int pa_nil))))))) pss_nil)
    (pss_cons (ps_if (pt_cmpR op_eq (pv 2) pe_int (nomark _)) (pss_one (ps_ret (pe_op op_rep (pe_lst (pa_cons (pe_op op_add pe_int (pe_call G hr rfl mG kG bG .nil pass0 (pa_cons (pv 0) (pa_cons (pe_op op_pow pe_int pe_int) pa_nil)))) pa_nil)) (pv 1)))) pss_nil)
    (pss_cons (ps_if (pt_cmpR op_eq (pv 2) pe_int (nomark _)) (pss_one (ps_ret (pe_lc (own := [("_law_k", 3)]) (g := gName 3) (tt := tYes) rfl scCosts.nd (pi_range1 (by rfl) mr (pa_cons (pv 1) pa_nil)) (blkOk_by (own := [("_law_k", 3)]) (N := ["_law_state", "_law_n", "_law_sort", "_law_k"]) (sc := defScope sCosts) (by decide +kernel))
        (fun _ _ _ _ _ => pg_name (i := 3) scCosts.nd rfl (Or.inl rfl)) (fun _ _ _ _ _ => pts_nil) (fun _ _ _ _ _ => pe_ix (r := rIxL K) ix_list (pe_lst (pa_cons pe_int (pa_cons (pe_op op_pow pe_int pe_int) (pa_cons pe_int (pa_cons pe_int pa_nil))))) (pe_call G hr rfl mG kG bG .nil pass0 (pa_cons (pv 0) (pa_cons pe_int pa_nil))) (fun _ _ => rfl))))) pss_nil)
    (pss_one (ps_ret (pe_lc (own := [("_law_k", 3)]) (g := gName 3) (tt := tYes) rfl scCosts.nd (pi_range1 (by rfl) mr (pa_cons (pv 1) pa_nil)) (blkOk_by (own := [("_law_k", 3)]) (N := ["_law_state", "_law_n", "_law_sort", "_law_k"]) (sc := defScope sCosts) (by decide +kernel))
        (fun _ _ _ _ _ => pg_name (i := 3) scCosts.nd rfl (Or.inl rfl)) (fun _ _ _ _ _ => pts_nil) (fun _ _ _ _ _ => pe_op op_add pe_int (pe_call G hr rfl mG kG bG .nil pass0 (pa_cons (pv 0) (pa_cons (pe_op op_pow pe_int pe_int) pa_nil)))))))))), ?_⟩
  refine ⟨_, rfl, p, a, ns, k, r, 4, rfl, hp, hS, hr0, by decide, by decide, fun d k1 r1 H1 hd0 hd4 hr1 hp1 kp1 => ?_⟩
  have fin : ∀ (D : Addr) (H2 : Hp), H D = none → PvC H p a D (n : Int).toNat H2 → Q (.ref D) H2 := fun D H2 hD ⟨pr, k', r', g1, g2, g3, g4, g5, g6⟩ => q D pr H2 (by omega) g3 g1 hD g6
  have bd : -(2 ^ 62) ≤ (n : Int) ∧ (n : Int) < 2 ^ 62 := ⟨by omega, by omega⟩
  refine ⟨_, rfl, rfl, _, rfl, ?_⟩
  refine ite2 (fun c1 => ?_) (fun c1 => ?_)
  · refine ⟨_, rfl, (n : Int), rfl, bd.1, bd.2, fun D hD => lc_range (lo := 0) (n := (n : Int).toNat) (PvC H p a D) (pvc_start hr1 hp1 kp1 hD) ?_ (fun H2 h => fin D H2 (kp1.free hD (by rw [hp1]; exact fun z => nomatch z)) h)⟩
    have hD0 : H D = none := kp1.free hD (by rw [hp1]; exact fun z => nomatch z)
    rintro i H2 hi ⟨pr, k', r', g1, g2, g3, g4, g5, g6⟩
    refine ⟨rfl, ?_⟩
    refine ⟨_, rfl, p, a, ns, k', r', 9, rfl, g4, seq_kp hS hp g6, g5, by decide, by decide, fun d2 k2 r2 H3 e0 e1 e2 e3 e4 => ?_⟩
    refine ⟨_, _, rfl, rfl, ?_⟩
    exact pvc_step hD0 g1 g2 g3 g6 (by rw [g4]; exact st_ne) e3 e2 e4 ⟨by omega, by omega⟩ (by omega)
  refine ⟨_, rfl, rfl, _, rfl, ?_⟩
  refine ite2 (fun c2 => ?_) (fun c2 => ?_)
  · have em : V.int ((10 : Int) ^ (9 : Int).toNat) = V.int 1000000000 := by decide
    refine ⟨_, rfl, _, _, rfl, rfl, ⟨by decide, by decide, by decide⟩, p, a, ns, k1, r1, 1000000000, congrArg (fun z => [V.ref p, z]) em, hp1, seq_kp hS hp kp1, hr1, by decide, by decide, fun d2 k2 r2 H3 e0 e1 e2 e3 e4 => ?_⟩
    refine ⟨_, _, rfl, rfl, (by show 1 ≤ sizeLine; decide), fun t ht => ?_⟩
    refine ⟨_, rfl, t, (n : Int), _, rfl, rfl, upd_same, by omega, by omega, by rw [sizeLine_eq]; show 1 * (n : Int).toNat ≤ _; omega, fun l hl => ?_⟩
    have k3 : Kp p H H3 := kp1.trans e4
    have hlt : l ≠ t := fun e => by rw [e, upd_same] at hl; cases hl
    have hl3 : H3 l = none := by rw [upd_ne hlt] at hl; exact hl
    refine q l (List.replicate n (1 + d2)) _ (List.length_replicate) (fun x hx => ?_) ?_ (k3.free hl3 (by rw [e3]; exact fun z => nomatch z)) ((k3.trans (Kp.new ht)).trans (Kp.new hl))
    · rw [List.eq_of_mem_replicate hx]
      exact ⟨by omega, by omega⟩
    · rw [upd_same]
      congr 2
      have key : ∀ j : Nat, (List.replicate j [V.int (1 + d2)]).flatten = (List.replicate j (1 + d2)).map V.int := by
        intro j
        induction j with
        | zero => rfl
        | succ j ih =>
          rw [List.replicate_succ, List.flatten_cons, ih, List.replicate_succ, List.map_cons] <;> rfl
      exact key _
  refine ⟨_, rfl, rfl, _, rfl, ?_⟩
  refine ite2 (fun c3 => ?_) (fun c3 => ?_)
  · refine ⟨_, rfl, (n : Int), rfl, bd.1, bd.2, fun D hD => lc_range (lo := 0) (n := (n : Int).toNat) (PvC H p a D) (pvc_start hr1 hp1 kp1 hD) ?_ (fun H2 h => fin D H2 (kp1.free hD (by rw [hp1]; exact fun z => nomatch z)) h)⟩
    have hD0 : H D = none := kp1.free hD (by rw [hp1]; exact fun z => nomatch z)
    rintro i H2 hi ⟨pr, k', r', g1, g2, g3, g4, g5, g6⟩
    refine ⟨rfl, ?_⟩
    refine ⟨_, _, rfl, rfl, ⟨by decide, by decide, by decide⟩, (by show 4 ≤ sizeLine; decide), fun t ht => ?_⟩
    have npt : p ≠ t := ne_of_none g4 ht
    refine ⟨_, rfl, p, a, ns, k', r', 4, rfl, by rw [upd_ne npt]; exact g4, seq_kp hS hp (g6.trans (Kp.new ht)), g5, by decide, by decide, fun d2 k2 r2 H3 e0 e1 e2 e3 e4 => ?_⟩
    have ht3 := e4 t _ upd_same npt.symm
    have nDt : D ≠ t := ne_of_none g1 ht
    have out : ∀ x : Int, Price x → ∃ acc, H3 D = some (.lst acc) ∧ acc.length < sizeLine ∧ PvC H p a D (i + 1) (upd H3 D (.lst (acc ++ [V.int x]))) := fun x hx =>
      pvc_step (H1 := upd H2 t (.lst [V.int 1, V.int ((10 : Int) ^ (9 : Int).toNat), V.int 2, V.int 50])) hD0 (by rw [upd_ne nDt]; exact g1) g2 g3 (g6.trans (Kp.new ht)) (by rw [upd_ne npt, g4]; exact st_ne) e3 e2 e4 hx (by omega)
    have h4 : d2 = 0 ∨ d2 = 1 ∨ d2 = 2 ∨ d2 = 3 := by omega
    rcases h4 with rfl | rfl | rfl | rfl
    · exact ⟨t, _, _, _, rfl, rfl, SqL.of ht3, rfl, out 1 ⟨by decide, by decide⟩⟩
    · exact ⟨t, _, _, _, rfl, rfl, SqL.of ht3, rfl, out ((10 : Int) ^ (9 : Int).toNat) ⟨by decide, by decide⟩⟩
    · exact ⟨t, _, _, _, rfl, rfl, SqL.of ht3, rfl, out 2 ⟨by decide, by decide⟩⟩
    · exact ⟨t, _, _, _, rfl, rfl, SqL.of ht3, rfl, out 50 ⟨by decide, by decide⟩⟩
  · refine ⟨_, rfl, (n : Int), rfl, bd.1, bd.2, fun D hD => lc_range (lo := 0) (n := (n : Int).toNat) (PvC H p a D) (pvc_start hr1 hp1 kp1 hD) ?_ (fun H2 h => fin D H2 (kp1.free hD (by rw [hp1]; exact fun z => nomatch z)) h)⟩
    have hD0 : H D = none := kp1.free hD (by rw [hp1]; exact fun z => nomatch z)
    rintro i H2 hi ⟨pr, k', r', g1, g2, g3, g4, g5, g6⟩
    refine ⟨rfl, ?_⟩
    have em : V.int ((10 : Int) ^ (9 : Int).toNat) = V.int 1000000000 := by decide
    refine ⟨_, rfl, _, _, rfl, rfl, ⟨by decide, by decide, by decide⟩, p, a, ns, k', r', 1000000000, congrArg (fun z => [V.ref p, z]) em, g4, seq_kp hS hp g6, g5, by decide, by decide, fun d2 k2 r2 H3 e0 e1 e2 e3 e4 => ?_⟩
    refine ⟨_, _, rfl, rfl, ?_⟩
    exact pvc_step hD0 g1 g2 g3 g6 (by rw [g4]; exact st_ne) e3 e2 e4 ⟨by omega, by omega⟩ (by omega)
end
end K38
/-! K38: the law's sets of marks, its moves, its costs of plans. -/
namespace K38
open PySem PySem.Spec PyProof.Rows L2
theorem natdiv (S k : Nat) : (S : Int) / 2 ^ k = ((S / 2 ^ k : Nat) : Int) := by
  rw [Int.natCast_ediv, Int.natCast_pow] <;> rfl
theorem and_shr (S k : Nat) : Builtin.bitAnd ((S : Int) / 2 ^ k) 1 = ((bit S k : Nat) : Int) := by
  rw [natdiv]
  have h := PySem.W.os_band (S / 2 ^ k) 1
  unfold bit
  rw [Nat.shiftRight_eq_div_pow]
  exact h
theorem xor_shl (S k : Nat) : Builtin.bitXor (S : Int) (2 ^ k) = ((flip S k : Nat) : Int) := by
  have e : (2 : Int) ^ k = ((2 ^ k : Nat) : Int) := by rw [Int.natCast_pow] <;> rfl
  rw [e, Bits.bitXor_pp (Int.natCast_nonneg _) (Int.natCast_nonneg _)]
  unfold flip
  rw [Nat.shiftLeft_eq, Nat.one_mul] <;> rfl
theorem sum_cast : ∀ l : List Nat, (l.map fun n => ((n : Nat) : Int)).sum = ((l.sum : Nat) : Int)
  | [] => rfl
  | a :: r => by
    rw [List.map_cons, List.sum_cons, List.sum_cons, sum_cast r, Int.natCast_add]
def spMany : Sp := fun vs H Q _ => ∃ S : Nat, vs = [.int S] ∧ ∀ H', Same H H' → Q (.int (cnt S : Nat)) H'
abbrev NextL (H : Hp) : List V → List (Nat × Nat) → Prop := Paired fun x p => ∃ t, x = .ref t ∧ H t = some (.tup [.int (p.1 : Nat), .int (p.2 : Nat)])
theorem NextL.mono {H H' : Hp} {xs : List V} {ps : List (Nat × Nat)} (h : NextL H xs ps) (k : ∀ r ys, H r = some (.tup ys) → H' r = some (.tup ys)) : NextL H' xs ps :=
  L2.Paired.mapP h fun _ _ ⟨r, e, z⟩ => ⟨r, e, k r _ z⟩
theorem NextL.app {H : Hp} {xs ys : List V} {ms ns : List (Nat × Nat)} (h : NextL H xs ms) (h' : NextL H ys ns) : NextL H (xs ++ ys) (ms ++ ns) := by
  induction h with
  | nil => exact h'
  | cons a b ih => exact .cons a ih
theorem NextL.len {H : Hp} {xs : List V} {ms : List (Nat × Nat)} (h : NextL H xs ms) : xs.length = ms.length := Paired.length h
def spNext : Sp := fun vs H Q _ => ∃ S n s : Nat, vs = [.int S, .int n, .int s] ∧ n ≤ 7 ∧ ∀ (l : Addr) (xs : List V) (H' : Hp), Same H H' → H l = none → H' l = some (.lst xs) → NextL H' xs (next n s S) → Q (.ref l) H'
section
variable {P : Program} {w : World} {K : PySem.W.Frag} {mg : Str → Option Value} {base : Heap}
theorem scMany : FnScope ["_law_marks", "_law_k"] ["_law_marks"] (defScope sMany) := ⟨rfl, rfl, rfl, by decide +kernel, rfl, by decide +kernel, by decide +kernel⟩
theorem ok_many {f : Addr} {fd : FuncData} (F : Fun K "_law_many" "_law_many" sMany f fd) (ms : mg "sum" = none) (mr : mg "range" = none) : FnOk P w K mg base CX0 1 f fd ["_law_marks"] spMany := by
  refine F.ok scMany (fun vs H Q E h => ?_) (fun cdv A outer s0 H vs Q E hr h => ?_)
  · obtain ⟨S, rfl, _⟩ := h
    rfl
  obtain ⟨S, rfl, q⟩ := h
  refine ⟨_, pss_one (ps_ret (pe_callB (cr_sum rfl) (by rfl) ms (by decide +kernel) (pa_cons (pe_lc (own := [("_law_k", 1)]) (g := gName 1) (tt := tYes) rfl scMany.nd (pi_range1 (by rfl) mr (pa_cons pe_int pa_nil)) (blkOk_by (own := [("_law_k", 1)]) (N := ["_law_marks", "_law_k"]) (sc := defScope sMany) (by decide +kernel))
        (fun _ _ _ _ _ => pg_name (i := 1) scMany.nd rfl (Or.inl rfl)) (fun _ _ _ _ _ => pts_nil) (fun _ _ _ _ _ => pe_op op_and (pe_op op_shr (pv 0) (pv 1)) pe_int)) pa_nil))), ?_⟩
  refine ⟨8, rfl, by decide, by decide, fun D hD => lc_range (lo := 0) (n := (8 : Int).toNat) (fun i H1 => H1 D = some (.lst (((List.range i).map fun k => ((bit S k : Nat) : Int)).map V.int)) ∧ Same H H1) ⟨upd_same, same_new hD _⟩ ?_ ?_⟩
  · rintro i H1 hi ⟨g1, s1⟩
    refine ⟨rfl, ?_⟩
    refine ⟨_, rfl, _, rfl, _, _, rfl, rfl, by omega, _, _, rfl, rfl, ?_⟩
    refine ⟨_, g1, by rw [List.length_map, List.length_map, List.length_range, sizeLine_eq]; omega, ?_, fun b o e => ?_⟩
    · have e : Builtin.bitAnd ((S : Int) / 2 ^ ((0 : Int) + (i : Int)).toNat) 1 = ((bit S i : Nat) : Int) := by
        have e0 : ((0 : Int) + (i : Int)).toNat = i := by omega
        rw [e0]
        exact and_shr S i
      rw [upd_same, List.range_succ, List.map_append, List.map_append]
      show some (HO.lst (_ ++ [V.int (Builtin.bitAnd ((S : Int) / 2 ^ ((0 : Int) + (i : Int)).toNat) 1)])) = _
      rw [e]
      all_goals rfl
    · rw [upd_ne (ne_of_none e hD)]
      exact s1 b o e
  · rintro H1 ⟨g1, s1⟩
    refine ⟨D, _, rfl, SqL.of g1, ?_⟩
    have e : ((List.range (8 : Int).toNat).map fun k => ((bit S k : Nat) : Int)).sum = ((cnt S : Nat) : Int) := by
      unfold cnt
      rw [← sum_cast, List.map_map]
      all_goals rfl
    rw [e]
    exact q H1 s1
theorem scNext : FnScope ["_law_marks", "_law_n", "_law_s", "_law_found", "_law_k", "_law_other"] ["_law_marks", "_law_n", "_law_s"] (defScope sNext) := ⟨rfl, rfl, rfl, by decide +kernel, rfl, by decide +kernel, by decide +kernel⟩
def nf (s S k : Nat) : Option (Nat × Nat) := if legal S k && Nat.ble (cnt (flip S k)) s then some (flip S k, k) else none
theorem next_eq (n s S : Nat) : next n s S = (List.range n).filterMap (nf s S) := rfl
theorem ok_next {f g : Addr} {fd gd : FuncData} (F : Fun K "_law_next" "_law_next" sNext f fd) (G : FnOk P w K mg base CX0 1 g gd ["_law_marks"] spMany) (bG : Binds K gd ["_law_marks"] []) (kG : PySem.W.keepIn K (.ref g) = true) (mG : mg "_law_many" = some (.ref g)) (mr : mg "range" = none) :
    FnOk P w K mg base CX0 2 f fd ["_law_marks", "_law_n", "_law_s"] spNext := by
  refine F.ok scNext (fun vs H Q E h => ?_) (fun cdv A outer s0 H vs Q E hr h => ?_)
  · obtain ⟨S, n, s, rfl, _⟩ := h
    rfl
  obtain ⟨S, n, s, rfl, hn, q⟩ := h
  refine ⟨_, pss_cons (ps_set (i := 3) scNext.nd rfl (Or.inl rfl) (pe_lst pa_nil))
    (pss_cons (ps_for PassesOwn.never rfl (pi_range1 (by rfl) mr (pa_cons (pv 1) pa_nil)) (pg_name (i := 4) scNext.nd rfl (Or.inl rfl))
      (pss_cons (ps_set (i := 5) scNext.nd rfl (Or.inl rfl) (pe_op op_xor (pv 0) (pe_op op_oneShl pe_int (pv 4))))
      (pss_one (ps_if (PW.pt (pw_and (PW.pt (pw_or (pt_cmpR op_eq (pv 4) pe_int (nomark _)) (pw_or1 (pt_cmpR op_eq (pe_op op_and (pe_op op_shr (pv 0) (pe_op op_sub (pv 4) pe_int)) pe_int) pe_int (nomark _)))))
          (pw_and1 (pt_cmpR op_le (pe_call G hr rfl mG kG bG .nil pass0 (pa_cons (pv 5) pa_nil)) (pv 2) (nomark _)))))
        (pss_one (ps_expr (pe_bm PySem.F.plainAttrs_list PySem.F.slot_list_append PySem.F.type_list_append mt_append (pv 3) (pa_cons (pe_tup (pa_cons (pv 5) (pa_cons (pv 4) pa_nil))) pa_nil)))) pss_nil))))
    (pss_one (ps_ret (pv 3)))), ?_⟩
  refine ⟨by show 0 ≤ sizeLine; decide, fun l hl => ?_⟩
  refine ⟨_, rfl, (n : Int), rfl, by omega, by omega, for_range (lo := 0) (n := (n : Int).toNat)
    (fun i σ H1 => ∃ xs kv ov, σ = [some (.int S), some (.int n), some (.int s), some (.ref l), kv, ov] ∧ Same H H1 ∧ H1 l = some (.lst xs) ∧ NextL H1 xs ((List.range i).filterMap (nf s S)))
    ⟨[], none, none, rfl, same_new hl _, upd_same, .nil⟩ ?_ ?_⟩
  · rintro i σ H1 hi ⟨xs, kv, ov, rfl, s1, h1, hx⟩
    have ek : V.int ((0 : Int) + (i : Int)) = V.int ((i : Nat) : Int) := congrArg V.int (by omega)
    have eo : V.int (Builtin.bitXor (S : Int) (2 ^ i)) = V.int ((flip S i : Nat) : Int) := congrArg V.int (xor_shl S i)
    refine ⟨_, rfl, _, rfl, i, rfl, ek, by omega, _, _, rfl, rfl, ?_⟩
    -- what follows from the test's answer
    have hlen : xs.length ≤ 10 := by
      have := hx.len
      have h2 : ((List.range i).filterMap (nf s S)).length ≤ i := by
        have := List.length_filterMap_le (nf s S) (List.range i)
        rw [List.length_range] at this
        exact this
      omega
    have no : nf s S i = none → ∀ (kv ov : Option V) (H2 : Hp), Same H1 H2 → (∃ xs kv' ov', [some (V.int S), some (V.int n), some (V.int s), some (V.ref l), kv, ov] = [some (V.int S), some (V.int n), some (V.int s), some (V.ref l), kv', ov'] ∧ Same H H2 ∧ H2 l = some (.lst xs) ∧ NextL H2 xs ((List.range (i + 1)).filterMap (nf s S))) := fun e kv ov H2 s2 => by
      refine ⟨xs, kv, ov, rfl, s1.trans s2, s2 _ _ h1, ?_⟩
      rw [List.range_succ, List.filterMap_append]
      have e2 : List.filterMap (nf s S) [i] = [] := by rw [List.filterMap_cons, e] <;> rfl
      rw [e2, List.append_nil]
      exact hx.mono fun r ys z => s2 _ _ z
    refine ⟨_, rfl, rfl, _, rfl, ?_⟩
    -- the second half of the test
    have half : legal S i = true → tTest (tOp (rI0 fun i j => .bl (decide (i ≤ j))) (tCall spMany [] E0 (tCons (tVar 5) tNil)) (tVar 2)) [some (V.int S), some (V.int n), some (V.int s), some (V.ref l), some (V.int ((0 : Int) + (i : Int))), some (V.int (Builtin.bitXor (S : Int) (2 ^ i)))] H1
        (fun b H2 => if b = true then tDrop (tBM K "list" rAppend (tVar 3) (tCons (tTup (tCons (tVar 5) (tCons (tVar 4) tNil))) tNil)) { nx := fun σ H1 => ∃ xs kv ov, σ = [some (V.int S), some (V.int n), some (V.int s), some (V.ref l), kv, ov] ∧ Same H H1 ∧ H1 l = some (.lst xs) ∧ NextL H1 xs ((List.range (i + 1)).filterMap (nf s S)), rt := Q, bk := fun σ H' => False, ct := fun σ H' => False } [some (V.int S), some (V.int n), some (V.int s), some (V.ref l), some (V.int ((0 : Int) + (i : Int))), some (V.int (Builtin.bitXor (S : Int) (2 ^ i)))] H2
          else ∃ xs kv ov, [some (V.int S), some (V.int n), some (V.int s), some (V.ref l), some (V.int ((0 : Int) + (i : Int))), some (V.int (Builtin.bitXor (S : Int) (2 ^ i)))] = [some (V.int S), some (V.int n), some (V.int s), some (V.ref l), kv, ov] ∧ Same H H2 ∧ H2 l = some (.lst xs) ∧ NextL H2 xs ((List.range (i + 1)).filterMap (nf s S))) := by
      intro hleg
      refine ⟨_, rfl, flip S i, congrArg (fun z => [z]) eo, fun H2 s2 => ?_⟩
      refine ⟨_, rfl, _, _, rfl, rfl, _, rfl, ?_⟩
      refine ite2 (fun c => ?_) (fun c => ?_)
      · have c1 : ((cnt (flip S i) : Nat) : Int) ≤ (s : Int) := of_decide_eq_true c
        have hl2 := s2 _ _ h1
        refine ⟨_, rfl, .inl ⟨rfl, _, SqL.of hl2⟩, _, rfl, _, rfl, (by show 2 ≤ sizeLine; decide), fun t ht => ?_⟩
        have nlt : l ≠ t := ne_of_none hl2 ht
        refine ⟨l, xs, _, rfl, rfl, (by rw [upd_ne nlt]; exact hl2), by rw [sizeLine_eq]; omega, ?_⟩
        refine ⟨xs ++ [.ref t], _, _, rfl, fun b o e => ?_, upd_same, ?_⟩
        · have nb : b ≠ l := fun z => by
            rw [z, hl] at e
            cases e
          have e2 := s2 _ _ (s1 _ _ e)
          rw [upd_ne nb, upd_ne (ne_of_none e2 ht)]
          exact e2
        · rw [List.range_succ, List.filterMap_append]
          have e2 : List.filterMap (nf s S) [i] = [(flip S i, i)] := by
            rw [List.filterMap_cons]
            unfold nf
            rw [hleg, Nat.ble_eq_true_of_le (by omega)] <;> rfl
          rw [e2]
          have t1 : ∀ r ys, H1 r = some (HO.tup ys) → upd (upd H2 t (.tup [V.int (Builtin.bitXor (S : Int) (2 ^ i)), V.int ((0 : Int) + (i : Int))])) l (.lst (xs ++ [.ref t])) r = some (.tup ys) := fun r ys z => by
            have z2 := s2 _ _ z
            rw [upd_ne (ne_of z2 hl2 (fun y => by cases y)), upd_ne (ne_of_none z2 ht)]
            exact z2
          refine (hx.mono t1).app (.cons ⟨t, rfl, ?_⟩ .nil)
          rw [upd_ne nlt.symm, upd_same, eo, ek]
      · have c1 : ¬ ((cnt (flip S i) : Nat) : Int) ≤ (s : Int) := of_decide_eq_false (Bool.eq_false_iff.mpr c)
        refine no ?_ _ _ H2 s2
        unfold nf
        have e3 : Nat.ble (cnt (flip S i)) s = false := by
          cases e : Nat.ble (cnt (flip S i)) s with
          | false => rfl
          | true => exact absurd (Nat.le_of_ble_eq_true e) (by omega)
        rw [e3, Bool.and_false] <;> rfl
    have zero : V.int ((0 : Int) + (i : Int)) = V.int 0 ↔ i = 0 := ⟨fun e => by injection e with e; omega, fun e => by rw [e] <;> rfl⟩
    by_cases hi0 : i = 0
    · rw [decide_eq_true (zero.mpr hi0)]
      refine iteT (iteT ?_)
      exact half (by rw [hi0] <;> rfl)
    · rw [decide_eq_false (fun z => hi0 (zero.mp z))]
      refine iteF ?_
      have e1 : ((0 : Int) + (i : Int) - 1) = ((i - 1 : Nat) : Int) := by omega
      refine ⟨_, rfl, _, rfl, _, _, rfl, rfl, _, _, rfl, rfl, by omega, _, _, rfl, rfl, rfl, _, rfl, ?_⟩
      have e2 : Builtin.bitAnd ((S : Int) / 2 ^ ((0 : Int) + (i : Int) - 1).toNat) 1 = ((bit S (i - 1) : Nat) : Int) := by
        rw [e1]
        exact and_shr S (i - 1)
      refine ite2 (fun c => ?_) (fun c => ?_)
      · have c1 : V.int (Builtin.bitAnd ((S : Int) / 2 ^ ((0 : Int) + (i : Int) - 1).toNat) 1) = V.int 1 := of_decide_eq_true c
        have hb : bit S (i - 1) = 1 := by
          injection c1 with c1
          rw [e2] at c1
          omega
        refine half ?_
        unfold legal
        rw [hb]
        simp
      · have c1 : ¬ V.int (Builtin.bitAnd ((S : Int) / 2 ^ ((0 : Int) + (i : Int) - 1).toNat) 1) = V.int 1 := of_decide_eq_false (Bool.eq_false_iff.mpr c)
        have hb : ¬ bit S (i - 1) = 1 := fun z => c1 (by rw [e2, z] <;> rfl)
        refine no ?_ _ _ H1 (Same.refl H1)
        unfold nf legal
        have e3 : Nat.beq i 0 = false := by
          cases e : Nat.beq i 0 with
          | false => rfl
          | true => exact absurd (Nat.eq_of_beq_eq_true e) hi0
        have e4 : Nat.beq (bit S (i - 1)) 1 = false := by
          cases e : Nat.beq (bit S (i - 1)) 1 with
          | false => rfl
          | true => exact absurd (Nat.eq_of_beq_eq_true e) hb
        rw [e3, e4] <;> rfl
  · rintro σ H1 ⟨xs, kv, ov, rfl, s1, h1, hx⟩
    exact ⟨_, rfl, q l xs H1 s1 hl h1 hx⟩
end
end K38
/-! K38: what a plan costs, by the law. -/
namespace K38
open PySem PySem.Spec PyProof.Rows L2
def cs (pr : List Int) : List Mv → List Int
  | [] => []
  | .sho :: r => cs pr r
  | .lay k :: r => pr.getD (k - 1) 0 :: cs pr r
  | .clear k :: r => pr.getD (k - 1) 0 :: cs pr r
theorem cs_app (pr : List Int) : ∀ a b : List Mv, cs pr (a ++ b) = cs pr a ++ cs pr b
  | [], _ => rfl
  | .sho :: r, b => cs_app pr r b
  | .lay k :: r, b => congrArg (pr.getD (k - 1) 0 :: ·) (cs_app pr r b)
  | .clear k :: r, b => congrArg (pr.getD (k - 1) 0 :: ·) (cs_app pr r b)
theorem cs_sum (pr : List Int) : ∀ a : List Mv, (cs pr a).sum = cost pr a
  | [] => rfl
  | .sho :: r => by
    show (cs pr r).sum = 0 + cost pr r
    rw [cs_sum pr r]
    omega
  | .lay k :: r => by
    show (pr.getD (k - 1) 0 :: cs pr r).sum = pr.getD (k - 1) 0 + cost pr r
    rw [List.sum_cons, cs_sum pr r]
  | .clear k :: r => by
    show (pr.getD (k - 1) 0 :: cs pr r).sum = pr.getD (k - 1) 0 + cost pr r
    rw [List.sum_cons, cs_sum pr r]
theorem cs_len (pr : List Int) : ∀ a : List Mv, (cs pr a).length ≤ a.length
  | [] => Nat.le_refl _
  | .sho :: r => Nat.le_succ_of_le (cs_len pr r)
  | .lay k :: r => Nat.succ_le_succ (cs_len pr r)
  | .clear k :: r => Nat.succ_le_succ (cs_len pr r)
def spCost (K : PySem.W.Frag) : Sp := fun vs H Q _ => ∃ (a : Addr) (pr : List Int), SqL K H a (pr.map V.int) ∧ ((vs = [.non, .ref a] ∧ Q .non H) ∨
  ∃ (p : Addr) (ms : List Mv), vs = [.ref p, .ref a] ∧ PlanAt H p ms ∧ Oks pr.length ms ∧ ms.length ≤ 5000 ∧ ∀ H', Same H H' → Q (.int (cost pr ms)) H')
section
variable {P : Program} {w : World} {K : PySem.W.Frag} {mg : Str → Option Value} {base : Heap}
theorem ls1 : ¬ V.str "lay" = V.str "show" := by intro h; injection h with h; exact absurd h (by decide +kernel)
theorem ls2 : ¬ V.str "clear" = V.str "show" := by intro h; injection h with h; exact absurd h (by decide +kernel)
theorem at_pr {pr : List Int} {k : Nat} (h1 : 1 ≤ k) (h2 : k ≤ pr.length) : atI (pr.map V.int) ((k : Int) - 1) = some (.int (pr.getD (k - 1) 0)) := by
  refine at_of (j := k - 1) (by omega) ?_
  rw [List.getElem?_map, List.getD_eq_getElem?_getD, List.getElem?_eq_getElem (by omega)]
  all_goals rfl
theorem scCost : FnScope ["_law_plan", "_law_prices", "_law_move"] ["_law_plan", "_law_prices"] (defScope sCost) := ⟨rfl, rfl, rfl, by decide +kernel, rfl, by decide +kernel, by decide +kernel⟩
theorem ok_cost {f : Addr} {fd : FuncData} (F : Fun K "_law_cost" "_law_cost" sCost f fd) (ms : mg "sum" = none) : FnOk P w K mg base CX0 1 f fd ["_law_plan", "_law_prices"] (spCost K) := by
  refine F.ok scCost (fun vs H Q E h => ?_) (fun cdv A outer s0 H vs Q E hr h => ?_)
  · obtain ⟨a, pr, _, ⟨rfl, _⟩ | ⟨p, ms, rfl, _⟩⟩ := h
    · rfl
    · rfl
  refine ⟨_, pss_cons (ps_if (pt_cmpR op_isN (pv 0) pe_non (nomark _)) (pss_one (ps_ret pe_non)) pss_nil)
    (pss_one (ps_ret (pe_callB (cr_sum rfl) (by rfl) ms (by decide +kernel) (pa_cons (pe_lc (own := [("_law_move", 2)]) (g := gName 2)
      (tt := tTest (tOp rNe (tOp (rIxT K) (tVar 2) (tC (.int 0))) (tC (.str "show"))))
      (te := tOp (rIxL K) (tVar 1) (tOp (rI0 fun i j => .int (i - j)) (tOp (rIxT K) (tVar 2) (tC (.int 1))) (tC (.int 1))))
      rfl scCost.nd (pi_list (pv 0)) (blkOk_by (own := [("_law_move", 2)]) (N := ["_law_plan", "_law_prices", "_law_move"]) (sc := defScope sCost) (by decide +kernel))
        (fun _ _ _ _ _ => pg_name (i := 2) scCost.nd rfl (Or.inl rfl))
        (fun _ _ _ _ _ => pts_one (pt_cmpR op_ne (pe_ix (r := rIxT K) ix_tup (pv 2) pe_int (fun _ _ => rfl)) pe_str (nomark _)))
        (fun _ _ _ _ _ => pe_ix (r := rIxL K) ix_list (pv 1) (pe_op op_sub (pe_ix (r := rIxT K) ix_tup (pv 2) pe_int (fun _ _ => rfl)) pe_int) (fun _ _ => rfl))) pa_nil)))), ?_⟩
  obtain ⟨a, pr, hS, ⟨rfl, q⟩ | ⟨p, ms, rfl, ⟨xs, hp, hx⟩, hok, hlen, q⟩⟩ := h
  · exact ⟨_, rfl, rfl, _, rfl, iteT q⟩
  refine ⟨_, rfl, rfl, _, rfl, iteF ?_⟩
  have hl := hx.len
  refine ⟨_, rfl, p, rfl, ⟨xs, SqL.of hp⟩, fun D hD => lc_it (walk_list (K := K) (a := p) (xs := xs)) (fun i H1 => H1 D = some (.lst ((cs pr (ms.take i)).map V.int)) ∧ Same H H1) ?_ ?_ ?_ ?_⟩
  · exact ⟨upd_same, same_new hD _⟩
  · rintro i H1 _ ⟨_, s1⟩
    exact s1.seq (SqL.of hp)
  · rintro i x H1 H2 hi ⟨g1, s1⟩ ⟨rfl, hx2⟩
    obtain ⟨m, hm, r, rfl, hr2⟩ := hx.get hx2
    have hr3 := s1 _ _ hr2
    have hmem : m ∈ ms := List.mem_of_getElem? hm
    have em : ms.take (i + 1) = ms.take i ++ [m] := by
      rw [List.take_add_one, hm] <;> rfl
    have cl := cs_len pr (ms.take i)
    rw [List.length_take] at cl
    refine ⟨rfl, ?_⟩
    cases m with
    | sho =>
      refine ⟨_, rfl, r, _, _, _, rfl, rfl, SqT.of hr3, rfl, rfl, _, rfl, ?_⟩
      refine iteF ⟨?_, s1⟩
      rw [em, cs_app]
      show _ = some (HO.lst ((cs pr (ms.take i) ++ []).map V.int))
      rw [List.append_nil]
      exact g1
    | lay k =>
      obtain ⟨k1, k2⟩ := hok _ hmem
      refine ⟨_, rfl, r, _, _, _, rfl, rfl, SqT.of hr3, rfl, rfl, _, rfl, ?_⟩
      refine iteT ?_
      refine ⟨_, rfl, _, rfl, r, _, _, _, rfl, rfl, SqT.of hr3, rfl, _, _, rfl, rfl, a, _, _, _, rfl, rfl, s1.seq hS, at_pr k1 k2, ?_⟩
      refine ⟨_, g1, (by rw [List.length_map, sizeLine_eq]; omega), ?_, fun b o e => ?_⟩
      · rw [upd_same, em, cs_app, List.map_append] <;> rfl
      · rw [upd_ne (ne_of_none e hD)]
        exact s1 b o e
    | clear k =>
      obtain ⟨k1, k2⟩ := hok _ hmem
      refine ⟨_, rfl, r, _, _, _, rfl, rfl, SqT.of hr3, rfl, rfl, _, rfl, ?_⟩
      refine iteT ?_
      refine ⟨_, rfl, _, rfl, r, _, _, _, rfl, rfl, SqT.of hr3, rfl, _, _, rfl, rfl, a, _, _, _, rfl, rfl, s1.seq hS, at_pr k1 k2, ?_⟩
      refine ⟨_, g1, (by rw [List.length_map, sizeLine_eq]; omega), ?_, fun b o e => ?_⟩
      · rw [upd_same, em, cs_app, List.map_append] <;> rfl
      · rw [upd_ne (ne_of_none e hD)]
        exact s1 b o e
  · rintro H1 ⟨g1, s1⟩
    refine ⟨D, _, rfl, SqL.of g1, ?_⟩
    have e : ms.take xs.length = ms := List.take_of_length_le (by omega)
    rw [e, cs_sum]
    exact q H1 s1
end
end K38
/-! K38: the law's walk from the nearest. -/
namespace K38
open PySem PySem.Spec PyProof.Rows L2 LamX
/-! ### dicts and lists of the walk -/
def kd (fl : List (Nat × Int)) : List (Key × V) := fl.map fun p => (Sum.inl ((p.1 : Nat) : Int), V.int p.2)
def li (left : List Nat) : List Int := left.map fun S => ((S : Nat) : Int)
theorem kd_len (fl : List (Nat × Int)) : (kd fl).length = fl.length := List.length_map _
theorem key_eq {a b : Nat} : ((Sum.inl ((a : Nat) : Int) : Key) = Sum.inl ((b : Nat) : Int)) ↔ a = b := ⟨fun h => by injection h with h; exact Int.ofNat.inj h, fun h => by rw [h]⟩
theorem valV_kd (S : Nat) : ∀ fl : List (Nat × Int), valV (kd fl) (Sum.inl ((S : Nat) : Int)) = (look fl S).map V.int
  | [] => rfl
  | p :: r => by
    have ih := valV_kd S r
    unfold look
    by_cases h : p.1 = S
    · rw [if_pos h]
      exact valV_pos (p := (Sum.inl ((p.1 : Nat) : Int), V.int p.2)) (key_eq.mpr h)
    · rw [if_neg h, ← ih]
      exact valV_neg (p := (Sum.inl ((p.1 : Nat) : Int), V.int p.2)) (fun z => h (key_eq.mp z))
theorem kd_map_no (S : Nat) (x : Int) : ∀ fl : List (Nat × Int), look fl S = none → (kd fl).map (fun kv => if kv.1 = Sum.inl ((S : Nat) : Int) then (kv.1, V.int x) else kv) = kd fl
  | [], _ => rfl
  | p :: r, h => by
    unfold look at h
    by_cases e : p.1 = S
    · rw [if_pos e] at h
      cases h
    · rw [if_neg e] at h
      have ih := kd_map_no S x r h
      show (if (Sum.inl ((p.1 : Nat) : Int) : Key) = Sum.inl ((S : Nat) : Int) then _ else _) :: (kd r).map _ = _ :: kd r
      rw [if_neg (fun z => e (key_eq.mp z)), ih] <;> rfl
theorem kd_map (S : Nat) (x : Int) : ∀ fl : List (Nat × Int), (fl.map (·.1)).Nodup → look fl S ≠ none → (kd fl).map (fun kv => if kv.1 = Sum.inl ((S : Nat) : Int) then (kv.1, V.int x) else kv) = kd (put fl S x)
  | [], _, h => absurd rfl h
  | p :: r, hn, h => by
    have hn : (p.1 :: r.map (·.1)).Nodup := hn
    obtain ⟨h1, h2⟩ := List.nodup_cons.mp hn
    unfold look at h
    unfold put
    by_cases e : p.1 = S
    · rw [if_pos e]
      show (if (Sum.inl ((p.1 : Nat) : Int) : Key) = Sum.inl ((S : Nat) : Int) then (Sum.inl ((p.1 : Nat) : Int), V.int x) else _) :: (kd r).map _ = (Sum.inl ((S : Nat) : Int), V.int x) :: kd r
      rw [if_pos (key_eq.mpr e), kd_map_no S x r (look_none_iff.mpr (by rw [← e]; exact h1)), e]
    · rw [if_neg e] at h ⊢
      have ih := kd_map S x r h2 h
      show (if (Sum.inl ((p.1 : Nat) : Int) : Key) = Sum.inl ((S : Nat) : Int) then _ else _) :: (kd r).map _ = _ :: kd (put r S x)
      rw [if_neg (fun z => e (key_eq.mp z)), ih] <;> rfl
theorem put_new {S : Nat} {x : Int} : ∀ {fl : List (Nat × Int)}, look fl S = none → put fl S x = fl ++ [(S, x)]
  | [], _ => rfl
  | p :: r, h => by
    unfold look at h
    unfold put
    by_cases e : p.1 = S
    · rw [if_pos e] at h
      cases h
    · rw [if_neg e] at h ⊢
      rw [put_new h] <;> rfl
theorem putK_kd {S : Nat} {x : Int} {fl : List (Nat × Int)} (hn : (fl.map (·.1)).Nodup) : putK (kd fl) (Sum.inl ((S : Nat) : Int)) (V.int x) = kd (put fl S x) := by
  unfold putK
  rw [valV_any, valV_kd]
  cases e : look fl S with
  | none =>
    rw [put_new e]
    show (if false = true then _ else _) = _
    rw [if_neg Bool.false_ne_true]
    unfold kd
    rw [List.map_append] <;> rfl
  | some y =>
    show (if true = true then _ else _) = _
    rw [if_pos rfl]
    exact kd_map S x fl hn (by rw [e]; exact fun z => nomatch z)
theorem put_put {S : Nat} {x y : Int} : ∀ {fl : List (Nat × Int)}, put (put fl S x) S y = put fl S y
  | [] => by
    show put [(S, x)] S y = [(S, y)]
    unfold put
    rw [if_pos rfl]
  | p :: r => by
    have ih := put_put (S := S) (x := x) (y := y) (fl := r)
    by_cases e : p.1 = S
    · show put (put (p :: r) S x) S y = put (p :: r) S y
      have h1 : put (p :: r) S x = (S, x) :: r := by
        unfold put
        rw [if_pos e]
      have h2 : put (p :: r) S y = (S, y) :: r := by
        unfold put
        rw [if_pos e]
      rw [h1, h2]
      unfold put
      rw [if_pos rfl]
    · have h1 : ∀ (z : Int) (q : List (Nat × Int)), put (p :: q) S z = p :: put q S z := fun z q => by
        show (if p.1 = S then _ else _) = _
        rw [if_neg e]
      rw [h1, h1, h1, ih]
theorem put_len (S : Nat) (x : Int) : ∀ fl : List (Nat × Int), (put fl S x).length = fl.length + (if look fl S = none then 1 else 0)
  | [] => rfl
  | p :: r => by
    have ih := put_len S x r
    unfold put look
    by_cases e : p.1 = S
    · rw [if_pos e, if_pos e, if_neg (by simp)] <;> rfl
    · rw [if_neg e, if_neg e, List.length_cons, List.length_cons, ih]
      omega
theorem newL_len (fl : List (Nat × Int)) (left : List Nat) (S : Nat) : (newL fl left S).length = left.length + (if look fl S = none then 1 else 0) := by
  unfold newL
  cases e : look fl S with
  | none =>
    show (left ++ [S]).length = _
    rw [List.length_append, if_pos rfl] <;> rfl
  | some y =>
    rw [if_neg (by simp)] <;> rfl
theorem base_len {n s : Nat} {pr : List Int} {fl : List (Nat × Int)} (B : Base n s pr fl) (hn : n ≤ 7) : fl.length ≤ 128 := by
  have h2 := nodup_le 128 (fl.map (·.1)) B.nd (fun x hx => by
    obtain ⟨p, hp, e⟩ := List.mem_map.mp hx
    rw [← e]
    exact Nat.lt_of_lt_of_le (B.lo p.1 p.2 (look_of_mem B.nd hp)).1 (Nat.pow_le_pow_right (by decide) hn))
  rw [List.length_map] at h2
  exact h2
theorem left_len {n s : Nat} {pr : List Int} {fl : List (Nat × Int)} {left : List Nat} (B : Base n s pr fl) (hn : n ≤ 7) (hl : left.Nodup) (hin : ∀ S, S ∈ left → ∃ x, look fl S = some x) : left.length ≤ 128 :=
  nodup_le 128 left hl fun x hx => by
    obtain ⟨y, hy⟩ := hin x hx
    exact Nat.lt_of_lt_of_le (B.lo x y hy).1 (Nat.pow_le_pow_right (by decide) hn)
theorem li_erase (S : Nat) : ∀ left : List Nat, (li left).erase ((S : Nat) : Int) = li (left.erase S)
  | [] => rfl
  | a :: r => by
    by_cases e : a = S
    · show (((a : Nat) : Int) :: li r).erase ((S : Nat) : Int) = li ((a :: r).erase S)
      rw [e, List.erase_cons_head, List.erase_cons_head]
    · have h1 : ¬ (((a : Nat) : Int) == ((S : Nat) : Int)) = true := fun z => e (Int.ofNat.inj (eq_of_beq z))
      have h2 : ¬ (a == S) = true := fun z => e (eq_of_beq z)
      show (((a : Nat) : Int) :: li r).erase ((S : Nat) : Int) = li ((a :: r).erase S)
      rw [List.erase_cons_tail h1, List.erase_cons_tail h2, li_erase S r] <;> rfl
theorem mem_li {left : List Nat} {k : Int} (h : k ∈ li left) : ∃ S, S ∈ left ∧ k = ((S : Nat) : Int) := by
  obtain ⟨S, hS, e⟩ := List.mem_map.mp h
  exact ⟨S, hS, e.symm⟩
theorem li_mem {left : List Nat} {S : Nat} (h : S ∈ left) : ((S : Nat) : Int) ∈ li left := List.mem_map.mpr ⟨S, h, rfl⟩
/-! ### lists of ints as data -/
theorem ints_depth : ∀ ns : List Int, PyData.depthAll (ns.map PyData.int) ≤ 1
  | [] => by simp [PyData.depthAll]
  | z :: zs => by
    have h1 := ints_depth zs
    simp only [List.map_cons, PyData.depthAll, PyData.depth]
    omega
theorem ints_lay : ∀ ns : List Int, PyData.canLayAll0 (ns.map PyData.int) = true
  | [] => by simp [PyData.canLayAll0]
  | z :: zs => by
    have h1 := ints_lay zs
    simp only [List.map_cons, PyData.canLayAll0, PyData.canLay0, h1, Bool.and_self]
theorem ints_shaped (ns : List Int) : SeqAt.shaped (.list (ns.map PyData.int)) = true := by
  have h1 := ints_depth ns
  have h2 : PyData.depth (.list (ns.map PyData.int)) ≤ 64 := by
    simp only [PyData.depth]
    omega
  show (PyData.canLay0 (.list (ns.map PyData.int)) && decide (PyData.depth (.list (ns.map PyData.int)) ≤ 64)) = true
  rw [Bool.and_eq_true]
  exact ⟨by simp only [PyData.canLay0]; exact ints_lay ns, decide_eq_true h2⟩
theorem ints_dp {K : PySem.W.Frag} {H : Hp} : ∀ ns : List Int, DpAll K H (ns.map V.int) (ns.map PyData.int)
  | [] => .nil
  | z :: zs => .cons (.int z) (ints_dp zs)
theorem nil_shaped : SeqAt.shaped (.list []) = true := ints_shaped []
theorem eqv_nil (ns : List Int) : PyData.eqv (.list (ns.map PyData.int)) (.list []) = ns.isEmpty := by
  cases ns with
  | nil => simp [PyData.eqv, PyData.eqvAll]
  | cons a r => simp [PyData.eqv, PyData.eqvAll]
/-! ### heaps: all but two things stay -/
def K2 (l d : Addr) (H H' : Hp) : Prop := ∀ b o, H b = some o → b ≠ l → b ≠ d → H' b = some o
theorem K2.refl (l d : Addr) (H : Hp) : K2 l d H H := fun _ _ h _ _ => h
theorem K2.updL {l d : Addr} {H H1 : Hp} (k : K2 l d H H1) (o : HO) : K2 l d H (upd H1 l o) := fun b u e n1 n2 => by
  rw [upd_ne n1]
  exact k b u e n1 n2
theorem K2.updD {l d : Addr} {H H1 : Hp} (k : K2 l d H H1) (o : HO) : K2 l d H (upd H1 d o) := fun b u e n1 n2 => by
  rw [upd_ne n2]
  exact k b u e n1 n2
theorem K2.tabs {l d : Addr} {H H1 : Hp} {T : List (Addr × Str)} {xs : List V} {kvs : List (Key × V)} (k : K2 l d H H1) (hl : H l = some (.lst xs)) (hd : H d = some (.dK kvs)) (t : Tabs T H) : Tabs T H1 := fun p hp => by
  obtain ⟨ps, h1, h2, h3⟩ := t p hp
  refine ⟨ps, k _ _ h1 (ne_of h1 hl fun z => by cases z) (ne_of h1 hd fun z => by cases z), h2, fun pos cv hc => ?_⟩
  obtain ⟨c, e1, e2⟩ := h3 pos cv hc
  exact ⟨c, e1, k _ _ e2 (ne_of e2 hl fun z => by unfold CodeO at z; cases z) (ne_of e2 hd fun z => by unfold CodeO at z; cases z)⟩
theorem K2.ext {l d : Addr} {H H1 H2 : Hp} (k : K2 l d H1 H2) (e : ExtN H H1) (hl : H l = none) (hd : H d = none) : ExtN H H2 := fun b o q n => k b o (e b o q n) (ne_of_none q hl) (ne_of_none q hd)
theorem K2.next {l d : Addr} {H H1 : Hp} {xs : List V} {kvs : List (Key × V)} {ys : List V} {ps : List (Nat × Nat)} (k : K2 l d H H1) (hl : H l = some (.lst xs)) (hd : H d = some (.dK kvs)) (h : NextL H ys ps) : NextL H1 ys ps :=
  h.mono fun r zs e => k _ _ e (ne_of e hl fun z => by cases z) (ne_of e hd fun z => by cases z)
theorem extN_seq {K : PySem.W.Frag} {H H' : Hp} {a : Addr} {xs : List V} (e : ExtN H H') (h : SqL K H a xs) : SqL K H' a xs := by
  rcases h with (h | ⟨o, h⟩) | h
  · exact .inl (.inl (e _ _ h fun _ z => by cases z))
  · exact .inl (.inr ⟨o, e _ _ h fun _ z => by cases z⟩)
  · exact .inr h
def farQ : Str := ("_law_far" : Str) ++ ".<locals>." ++ "<lambda>"
abbrev farT (P0 : Addr) : List (Addr × Str) := [(P0, farQ)]
def spFar2 (K : PySem.W.Frag) (P0 : Addr) : Sp := fun vs H Q _ => ∃ (a : Addr) (pr : List Int) (s : Nat), vs = [.ref a, .int s] ∧ SqL K H a (pr.map V.int) ∧ 1 ≤ pr.length ∧ pr.length ≤ 7 ∧ NonNeg pr ∧ s ≤ 7 ∧ Tabs (farT P0) H ∧
  ∀ (d : Addr) (fl : List (Nat × Int)) (H' : Hp), ExtN H H' → H' d = some (.dK (kd fl)) → Outer pr.length s pr fl [] → Q (.ref d) H'
section
variable {P : Program} {w : World} {K : PySem.W.Frag} {mg : Str → Option Value} {base : Heap}
theorem scFar2 : FnScope ["_law_prices", "_law_s", "_law_left", "_law_here", "_law_other", "_law_k", "_law_there", "_law_far_here"] ["_law_prices", "_law_s"] (defScope sFar) := ⟨rfl, rfl, rfl, by decide +kernel, rfl, by decide +kernel, by decide +kernel⟩
theorem ok_far {f g c0 P0 : Addr} {fd gd : FuncData} (F : Fun K "_law_far" "_law_far" sFar f fd) (hcode : fd.code = .ref c0) (TB : TabB base mg c0 P0)
    (G : FnOk P w K mg base CX0 2 g gd ["_law_marks", "_law_n", "_law_s"] spNext) (bG : Binds K gd ["_law_marks", "_law_n", "_law_s"] []) (kG : PySem.W.keepIn K (.ref g) = true) (mG : mg "_law_next" = some (.ref g)) (mm : mg "min" = none) (ml : mg "len" = none) :
    FnOk P w K mg base CX0 3 f fd ["_law_prices", "_law_s"] (spFar2 K P0) := by
  obtain ⟨oc, od, kV, doc, pm, an, cdv, ct, osl, rfl, lk, hcd⟩ := F.ex
  obtain rfl : cdv = .ref c0 := hcode
  refine fn_of lk hcd scFar2 (fun vs H Q E h => ?_) (fun A outer s0 H vs Q E hr h => ?_)
  · obtain ⟨a, pr, s, rfl, _⟩ := h
    rfl
  obtain ⟨a, pr, s, rfl, hS, h1, h7, nn, hs7, hT, q⟩ := h
  have hu := hu_of hr
  refine ⟨_, PSs.nox (pss_cons (ps_set (i := 7) scFar2.nd rfl (Or.inr rfl) (pe_disp (pps_cons pe_int pe_int pps_nil) (by rfl) (by rfl) (fun z => by cases z) (by decide)))
    (pss_cons (ps_set (i := 2) scFar2.nd rfl (Or.inl rfl) (pe_lst (pa_cons pe_int pa_nil)))
    (pss_cons (ps_while PassesOwn.never (pt_cmpR (op_neD hr.units) (pv 2) (pe_lst pa_nil) (nomark _))
      (pss_cons (ps_set (i := 3) scFar2.nd rfl (Or.inl rfl) (pe_minD (T := farT P0) (c := c0) (P := P0) (j := 7) (pn := "_law_marks") (dn := "_law_far_here") rfl rfl (by have := hr.dp; show A.depth + 1 + 2 < _; have h2 : A.depth + 1 + 3 * 2 + 5 < recursionLimit := this; omega) (by rfl) mm (pa_cons (pv 2) pa_nil)
          ⟨rfl, rfl, rfl, by decide +kernel, rfl, rfl, rfl, by decide +kernel⟩ rfl TB rfl (List.mem_singleton.mpr rfl) (fun p hp _ => by rw [List.mem_singleton.mp hp] <;> rfl) rfl (fun _ _ _ _ _ _ => rfl)))
      (pss_cons (ps_expr (pe_bm PySem.F.plainAttrs_list PySem.F.slot_list_remove PySem.F.type_list_remove mt_remove (pv 2) (pa_cons (pv 3) pa_nil)))
      (pss_one (ps_for PassesOwn.never rfl (pi_list (pe_call G hr rfl mG kG bG .nil pass0 (pa_cons (pv 3) (pa_cons (pe_callB call_len_seq (by rfl) ml PySem.boot_len (pa_cons (pv 0) pa_nil)) (pa_cons (pv 1) pa_nil)))))
          (pg_tup rfl (pgs_cons (pg_name (i := 4) scFar2.nd rfl (Or.inl rfl)) (pgs_cons (pg_name (i := 5) scFar2.nd rfl (Or.inl rfl)) pgs_nil)))
        (pss_cons (ps_set (i := 6) scFar2.nd rfl (Or.inl rfl) (pe_op op_add (pe_dget hu (pv 7) (pv 3) (fun _ _ => rfl)) (pe_ix ix_list (pv 0) (pv 5) (fun _ _ => rfl))))
        (pss_cons (ps_if (pt_cmp (pc_dnotin hu (pv 4) (pv 7)))
          (pss_cons (ps_expr (pe_bm PySem.F.plainAttrs_list PySem.F.slot_list_append PySem.F.type_list_append mt_append (pv 2) (pa_cons (pv 4) pa_nil)))
          (pss_one (ps_dput hu (pv 7) (pv 4) (pv 6) (by rfl)))) pss_nil)
        (pss_one (ps_dput hu (pv 7) (pv 4) (pe_callB (call_min2 rfl) (by rfl) mm (by decide +kernel) (pa_cons (pe_dget hu (pv 7) (pv 4) (fun _ _ => rfl)) (pa_cons (pv 6) pa_nil))) (by rfl)))))))))
    )
    (pss_one (ps_ret (pv 7)))))), ?_⟩
  refine fun d hd => ⟨upd_same, [(Sum.inl 0, .int 0)], rfl, by decide, ?_⟩
  refine ⟨by show 1 ≤ sizeLine; decide, fun l hl => ?_⟩
  have hdl : d ≠ l := fun e => by rw [← e, upd_same] at hl; cases hl
  have hl0 : H l = none := by rw [upd_ne hdl.symm, upd_ne hdl.symm] at hl; exact hl
  refine ⟨fun m σ H1 => ∃ (fl : List (Nat × Int)) (left : List Nat) (hv ov kv tv : Option V), m + fl.length = 128 + left.length ∧ σ = [some (.ref a), some (.int s), some (.ref l), hv, ov, kv, tv, some (.ref d)] ∧
    Outer pr.length s pr fl left ∧ H1 l = some (.lst ((li left).map V.int)) ∧ H1 d = some (.dK (kd fl)) ∧ ExtN H H1 ∧ Tabs (farT P0) H1, ⟨128, [(0, 0)], [0], none, none, none, none, rfl, rfl, outer_start (by omega), upd_same, ?_, ?_, ?_⟩, ?_⟩
  · rw [upd_ne hdl, upd_same]
    all_goals rfl
  · intro b o e n
    rw [upd_ne (ne_of_none e hl0), upd_ne (ne_of_none e hd), upd_ne (ne_of_none e hd)]
    exact e
  · refine hT.ext fun b o e => ?_
    rw [upd_ne (ne_of_none e hl0), upd_ne (ne_of_none e hd), upd_ne (ne_of_none e hd)]
    exact e
  rintro m σ H1 ⟨fl, left, hv, ov, kv, tv, hm, rfl, O, g1, g2, g3, g4⟩
  refine ⟨_, rfl, (by show 0 ≤ sizeLine; decide), fun z hz => ?_⟩
  have sz : Same H1 (upd H1 z (.lst [])) := same_new hz _
  refine ⟨_, _, .lst (SqL.of (sz _ _ g1)) (ints_dp (li left)), .lst (SqL.of upd_same) .nil, ints_shaped _, nil_shaped, _, rfl, ?_⟩
  rw [eqv_nil]
  have g1 := sz _ _ g1
  have g2 := sz _ _ g2
  have g3 : ExtN H (upd H1 z (.lst [])) := fun b o e n => sz _ _ (g3 b o e n)
  have g4 := Tabs.ext g4 sz
  generalize upd H1 z (.lst []) = H2 at g1 g2 g3 g4
  have fl128 := base_len O.base h7
  have le128 := left_len O.base h7 O.lnd O.lin
  by_cases hne : left = []
  · subst hne
    refine iteF ⟨_, rfl, q d fl H2 g3 g2 O⟩
  have hpos : 0 < left.length := List.length_pos_iff.mpr hne
  have hemp : (li left).isEmpty = false := by
    cases left with
    | nil => exact absurd rfl hne
    | cons x r => rfl
  rw [hemp]
  refine iteT ⟨fun σ' H' => ∃ m', m' < m ∧ _, fun σ' H' h => h, ?_⟩
  have vk : ∀ S, valV (kd fl) (Sum.inl ((S : Nat) : Int)) = (look fl S).map V.int := fun S => valV_kd S fl
  refine ⟨_, rfl, l, d, li left, kd fl, rfl, g4, rfl, g1, g2, (by unfold li; rw [List.length_map]; exact hpos), fun k hk => ?_, fun H3 k x0 e3 t3 hk hx hmin => ?_⟩
  · obtain ⟨S, hS, rfl⟩ := mem_li hk
    obtain ⟨x, hx⟩ := O.lin S hS
    exact ⟨x, by rw [vk, hx] <;> rfl⟩
  obtain ⟨here, hh, rfl⟩ := mem_li hk
  have lk2 : ∀ S (x : Int), valV (kd fl) (Sum.inl ((S : Nat) : Int)) = some (.int x) → look fl S = some x := fun S x e => by
    rw [vk] at e
    cases q : look fl S with
    | none => rw [q] at e; cases e
    | some y => rw [q] at e; injection e with e; injection e with e; rw [e]
  have I0 := inner_start O hh (lk2 _ _ hx) fun T y hT hy => hmin _ _ (li_mem hT) (by rw [vk, hy] <;> rfl)
  have g1 := e3 _ _ g1 fun _ z => by cases z
  have g2 := e3 _ _ g2 fun _ z => by cases z
  have g3 := g3.trans e3
  obtain ⟨j, hj1, hj2, hj3, hj4⟩ := first_at hk
  refine ⟨_, rfl, .inl ⟨rfl, _, SqL.of g1⟩, _, rfl, l, li left, _, j, rfl, rfl, g1, hj2, hj3, ?_⟩
  rw [hj4, li_erase]
  have kl : K2 l d H3 (upd H3 l (.lst ((li (left.erase here)).map V.int))) := (K2.refl l d H3).updL _
  have t4 := kl.tabs g1 g2 t3
  have g3 := kl.ext g3 hl0 hd
  have g2 : (upd H3 l (.lst ((li (left.erase here)).map V.int))) d = some (.dK (kd fl)) := by rw [upd_ne hdl]; exact g2
  have g1 : (upd H3 l (.lst ((li (left.erase here)).map V.int))) l = some (.lst ((li (left.erase here)).map V.int)) := upd_same
  generalize upd H3 l (.lst ((li (left.erase here)).map V.int)) = H4 at g1 g2 g3 t4
  refine ⟨_, rfl, _, rfl, a, _, rfl, .inl (extN_seq g3 hS), _, rfl, here, pr.length, s, ?_, h7, fun lx xs H5 s5 hx4 hx5 hnx => ⟨lx, rfl, ⟨xs, SqL.of hx5⟩, ?_⟩⟩
  · rw [List.length_map]
    all_goals rfl
  have nlx : lx ≠ l := fun e => by rw [e, g1] at hx4; cases hx4
  have dlx : lx ≠ d := fun e => by rw [e, g2] at hx4; cases hx4
  have g1 := s5 _ _ g1
  have g2 := s5 _ _ g2
  have g3 : ExtN H H5 := fun b o e n => s5 _ _ (g3 b o e n)
  have t5 := Tabs.ext t4 s5
  have hxl := hnx.len
  have nl128 : (next pr.length s here).length ≤ pr.length := by
    have := List.length_filterMap_le (nf s here) (List.range pr.length)
    rw [List.length_range] at this
    exact this
  have er : (left.erase here).length + 1 = left.length := by
    rw [List.length_erase_of_mem hh]
    omega
  refine for_it (walk_list (K := K) (a := lx) (xs := xs)) (fun i σ H6 => ∃ (fl' : List (Nat × Int)) (left' : List Nat) (ov kv tv : Option V), σ = [some (.ref a), some (.int s), some (.ref l), some (.int (here : Nat)), ov, kv, tv, some (.ref d)] ∧
    Inner pr.length s pr fl' left' here x0 ((next pr.length s here).take i) ∧ H6 l = some (.lst ((li left').map V.int)) ∧ H6 d = some (.dK (kd fl')) ∧ K2 l d H5 H6 ∧ fl'.length + left.length = left'.length + 1 + fl.length) ?_ ?_ ?_ ?_
  · exact ⟨fl, left.erase here, _, _, _, rfl, I0, g1, g2, K2.refl l d H5, by omega⟩
  · rintro i σ H6 _ ⟨fl', left', _, _, _, _, _, _, _, k6, _⟩
    exact SqL.of (k6 _ _ hx5 nlx dlx)
  · rintro i x σ H6 H7 hi ⟨fl', left', ov, kv, tv, rfl, I6, c1, c2, k6, hlen⟩ ⟨rfl, hxi⟩
    obtain ⟨p, hp, t, rfl, ht⟩ := paired_get hnx hxi
    have ht6 := k6 _ _ ht (ne_of ht g1 fun y => by cases y) (ne_of ht g2 fun y => by cases y)
    have hpm : p ∈ next pr.length s here := List.mem_of_getElem? hp
    obtain ⟨p1, p2, p3, p4⟩ := mem_next.mp hpm
    have em : (next pr.length s here).take (i + 1) = (next pr.length s here).take i ++ [(flip here p.2, p.2)] := by
      rw [List.take_add_one, hp, ← p1] <;> rfl
    have I7 := inner_step (by omega) h7 nn rfl I6 p2 p3 p4
    rw [← em] at I7
    have fl128' := base_len I6.base h7
    have le128' := left_len I6.base h7 I6.lnd I6.lin
    have vk : ∀ S, valV (kd fl') (Sum.inl ((S : Nat) : Int)) = (look fl' S).map V.int := fun S => valV_kd S fl'
    have dg : ∀ S, DGet H7 d (.int ((S : Nat) : Int)) ((look fl' S).map V.int) := fun S => by
      have := DGet.k (k := Sum.inl ((S : Nat) : Int)) c2
      rw [vk] at this
      exact this
    have dgh : DGet H7 d (.int ((here : Nat) : Int)) (some (.int x0)) := by
      have := dg here
      rw [I6.at_] at this
      exact this
    refine ⟨t, _, rfl, SqT.of ht6, rfl, _, _, rfl, _, _, rfl, rfl, ?_⟩
    refine ⟨_, rfl, _, rfl, d, _, rfl, dgh, _, rfl, _, rfl, a, _, _, _, rfl, rfl, (extN_seq (k6.ext g3 hl0 hd) hS), at_of (j := p.2) rfl (by rw [List.getElem?_map, List.getElem?_eq_getElem p2] <;> rfl), _, _, rfl, rfl, ?_⟩
    have ep : pr[p.2] = pr.getD p.2 0 := by rw [List.getD_eq_getElem?_getD, List.getElem?_eq_getElem p2] <;> rfl
    rw [ep]
    rw [← p1] at I7
    refine ⟨_, rfl, _, rfl, d, _, rfl, dg p.1, _, rfl, ?_⟩
    cases e : look fl' p.1 with
    | none =>
      refine iteT ?_
      refine ⟨_, rfl, .inl ⟨rfl, _, SqL.of c1⟩, _, rfl, l, _, _, rfl, rfl, c1, (by unfold li; rw [List.length_map, List.length_map, sizeLine_eq]; omega), ?_⟩
      have c27 : (upd H7 l (.lst ((li left').map V.int ++ [V.int ((p.1 : Nat) : Int)]))) d = some (.dK (kd fl')) := by rw [upd_ne hdl]; exact c2
      refine ⟨_, rfl, _, rfl, _, rfl, d, _, rfl, DPut.k (k := Sum.inl ((p.1 : Nat) : Int)) c27 (by rw [kd_len, sizeLine_eq]; omega), ?_⟩
      rw [putK_kd I6.base.nd]
      have nx : newX fl' p.1 (x0 + pr.getD p.2 0) = (x0 + pr.getD p.2 0) := by
        unfold newX
        rw [e]
      have nL : newL fl' left' p.1 = left' ++ [p.1] := by
        unfold newL
        rw [e]
      rw [nx, nL] at I7
      have lk : look (put fl' p.1 (x0 + pr.getD p.2 0)) p.1 = some (x0 + pr.getD p.2 0) := by rw [look_put, if_pos rfl]
      have dg2 : DGet (upd (upd H7 l (.lst ((li left').map V.int ++ [V.int ((p.1 : Nat) : Int)]))) d (.dK (kd (put fl' p.1 (x0 + pr.getD p.2 0))))) d (.int ((p.1 : Nat) : Int)) (some (.int (x0 + pr.getD p.2 0))) := by
        have := DGet.k (k := Sum.inl ((p.1 : Nat) : Int)) (upd_same (H := upd H7 l (.lst ((li left').map V.int ++ [V.int ((p.1 : Nat) : Int)]))) (a := d) (o := .dK (kd (put fl' p.1 (x0 + pr.getD p.2 0)))))
        rw [valV_kd, lk] at this
        exact this
      refine ⟨_, rfl, _, rfl, d, _, rfl, dg2, _, rfl, (x0 + pr.getD p.2 0), (x0 + pr.getD p.2 0), rfl, _, rfl, _, rfl, d, _, rfl, DPut.k (k := Sum.inl ((p.1 : Nat) : Int)) upd_same (by rw [kd_len, put_len, sizeLine_eq]; split <;> omega), ?_⟩
      rw [if_neg (Int.lt_irrefl _), putK_kd I7.base.nd, put_put]
      refine ⟨put fl' p.1 (x0 + pr.getD p.2 0), left' ++ [p.1], _, _, _, rfl, I7, ?_, upd_same, ((k6.updL _).updD _).updD _, ?_⟩
      · rw [upd_ne hdl.symm, upd_ne hdl.symm, upd_same]
        unfold li
        rw [List.map_append, List.map_append] <;> rfl
      · rw [put_len, e, if_pos rfl, List.length_append]
        show fl'.length + 1 + left.length = left'.length + 1 + 1 + fl.length
        omega
    | some y =>
      refine iteF ?_
      have nx : newX fl' p.1 (x0 + pr.getD p.2 0) = if (x0 + pr.getD p.2 0) < y then (x0 + pr.getD p.2 0) else y := by
        unfold newX
        rw [e]
      have nL : newL fl' left' p.1 = left' := by
        unfold newL
        rw [e]
      rw [nx, nL] at I7
      have dg2 := dg p.1
      rw [e] at dg2
      refine ⟨_, rfl, _, rfl, d, _, rfl, dg2, _, rfl, y, (x0 + pr.getD p.2 0), rfl, _, rfl, _, rfl, d, _, rfl, DPut.k (k := Sum.inl ((p.1 : Nat) : Int)) c2 (by rw [kd_len, sizeLine_eq]; omega), ?_⟩
      rw [putK_kd I6.base.nd]
      refine ⟨put fl' p.1 (if (x0 + pr.getD p.2 0) < y then (x0 + pr.getD p.2 0) else y), left', _, _, _, rfl, I7, ?_, upd_same, k6.updD _, ?_⟩
      · rw [upd_ne hdl.symm]
        exact c1
      · rw [put_len, e, if_neg (by simp)]
        omega
  · rintro σ H6 ⟨fl', left', ov, kv, tv, rfl, I6, c1, c2, k6, hlen⟩
    have e : (next pr.length s here).take xs.length = next pr.length s here := List.take_of_length_le (by omega)
    rw [e] at I6
    have O6 := outer_next I6
    have fl128' := base_len O6.base h7
    have le128' := left_len O6.base h7 O6.lnd O6.lin
    exact ⟨128 + left'.length - fl'.length, by omega, fl', left', _, _, _, _, by omega, rfl, O6, c1, c2, k6.ext g3 hl0 hd, k6.tabs g1 g2 t5⟩
end
end K38
/-! K38: the law. -/
namespace K38
open PySem PySem.Spec PyProof.Rows L2 LamX
def spLaw (K : PySem.W.Frag) (P0 : Addr) : Sp := fun vs H Q _ => ∃ (a : Addr) (ns : List Int), vs = [.ref a] ∧ SqL K H a (ns.map V.int) ∧ H P0 = some (.tbl #[]) ∧ ∀ H', Q (.bl true) H'
def metL (last : Nat) (fl : List (Nat × Int)) : List Int := fl.filterMap fun p => if p.1 &&& last = 0 then none else some p.2
theorem metL_app (last : Nat) (a b : List (Nat × Int)) : metL last (a ++ b) = metL last a ++ metL last b := List.filterMap_append
theorem pick (d1 d2 : Int) (b : Bool) : atI [V.int d1, V.int d2] (if b = true then 1 else 0) = some (.int (if b = true then d2 else d1)) := by cases b <;> rfl
theorem scal_ofO (a b : Option Int) : scal (ofO a) (ofO b) = true := by cases a <;> cases b <;> rfl
def chkTop : Bool := (List.range 7).all fun d => (List.range 128).all fun S => if S < 2 ^ (d + 1) then decide (decide (S &&& 2 ^ d = 0) = decide (S < 2 ^ d)) else true
theorem chkTop_ok : chkTop = true := by decide +kernel
theorem top_bit {S d : Nat} (hd : d < 7) (hS : S < 2 ^ (d + 1)) : S &&& 2 ^ d = 0 ↔ S < 2 ^ d := by
  have h128 : S < 128 := Nat.lt_of_lt_of_le hS (Nat.pow_le_pow_right (n := 2) (by decide) (by omega : d + 1 ≤ 7))
  have h := List.all_eq_true.mp (List.all_eq_true.mp chkTop_ok d (List.mem_range.mpr hd)) S (List.mem_range.mpr h128)
  rw [if_pos hS] at h
  have h2 := of_decide_eq_true h
  constructor
  · intro e
    rw [decide_eq_true e] at h2
    exact of_decide_eq_true h2.symm
  · intro e
    rw [decide_eq_true e] at h2
    exact of_decide_eq_true h2
theorem mem_metL {n s : Nat} {pr : List Int} {fl : List (Nat × Int)} (h1 : 1 ≤ n) (h7 : n ≤ 7) (B : Base n s pr fl) {x : Int} : x ∈ metL (2 ^ (n - 1)) fl ↔ ∃ m, m ∈ (List.range (2 ^ (n - 1))).map (· + 2 ^ (n - 1)) ∧ look fl m = some x := by
  obtain ⟨d, rfl⟩ : ∃ d, n = d + 1 := ⟨n - 1, by omega⟩
  show x ∈ metL (2 ^ d) fl ↔ ∃ m, m ∈ (List.range (2 ^ d)).map (· + 2 ^ d) ∧ look fl m = some x
  unfold metL
  rw [List.mem_filterMap]
  have two : 2 ^ (d + 1) = 2 * 2 ^ d := by rw [Nat.pow_succ]; omega
  constructor
  · rintro ⟨p, hp, e⟩
    split at e
    · cases e
    · rename_i hne
      have e2 := Option.some.inj e
      have hl := look_of_mem B.nd (show (p.1, p.2) ∈ fl from hp)
      obtain ⟨b1, _⟩ := B.lo _ _ hl
      have hge : ¬ p.1 < 2 ^ d := fun z => hne ((top_bit (by omega) b1).mpr z)
      refine ⟨p.1, List.mem_map.mpr ⟨p.1 - 2 ^ d, List.mem_range.mpr (by omega), by show p.1 - 2 ^ d + 2 ^ d = p.1; omega⟩, by rw [hl, e2]⟩
  · rintro ⟨m, hm, e⟩
    obtain ⟨c, hc, rfl⟩ := List.mem_map.mp hm
    have hc := List.mem_range.mp hc
    refine ⟨(c + 2 ^ d, x), look_some_mem e, ?_⟩
    rw [if_neg]
    intro z
    have := (top_bit (S := c + 2 ^ d) (by omega) (by omega)).mp z
    omega
theorem isEmpty_of {ns : List Int} (h : ∀ x, x ∉ ns) : ns.isEmpty = true := by
  cases ns with
  | nil => rfl
  | cons a r => exact absurd List.mem_cons_self (h a)
theorem notEmpty_of {ns : List Int} {x : Int} (h : x ∈ ns) : ns.isEmpty = false := by
  cases ns with
  | nil => cases h
  | cons a r => rfl
theorem law_end {K : PySem.W.Frag} {Q : VK} {σ : L2.St} {H : Hp} {l D : Addr} {pr : List Int} {s : Nat} {fl : List (Nat × Int)} (h4 : σ[4]? = some (some (.ref l))) (h3 : σ[3]? = some (some (.int s))) (h8 : σ[8]? = some (some (.ref D)))
    (m2 : H D = some (.lst ((metL (2 ^ (pr.length - 1)) fl).map V.int))) (m3 : H l = some (.lst (pr.map V.int))) (n1 : 1 ≤ pr.length) (n7 : pr.length ≤ 7) (nn : NonNeg pr) (s7 : s ≤ 7) (O : Outer pr.length s pr fl []) (q : ∀ H', Q (.bl true) H') :
    tSeq (tIfS (tTest (tOp (rEqD K) (tVar 8) (tLst tNil)))
      (tRet (tAndV (tOp (fun x y H Q => y = V.non ∧ Q (V.bl (decide (x = V.non))) H) (tCall (spValue K false) [] E0 (tCons (tVar 4) (tCons (tVar 3) tNil))) (tC V.non))
        (tOp (fun x y H Q => y = V.non ∧ Q (V.bl (decide (x = V.non))) H) (tCall (spPlan K false fun x => 2 * x) [] E0 (tCons (tVar 4) (tCons (tVar 3) tNil))) (tC V.non)))) tNext)
      (tRet (tAndV (tOp rEq (tCall (spValue K false) [] E0 (tCons (tVar 4) (tCons (tVar 3) tNil))) (tCB (rMin K) (tCons (tVar 8) tNil)))
        (tOp rEq (tCall (spCost K) [] E0 (tCons (tCall (spPlan K false fun x => 2 * x) [] E0 (tCons (tVar 4) (tCons (tVar 3) tNil))) (tCons (tVar 4) tNil)))
          (tOp (rI CMul fun i j => V.int (i * j)) (tC (V.int 2)) (tCB (rMin K) (tCons (tVar 8) tNil))))))
      { nx := fun x H' => Q V.non H', rt := Q } σ H := by
  refine ⟨_, h8, (by show 0 ≤ sizeLine; decide), fun z hz => ?_⟩
  have sz : Same H (upd H z (.lst [])) := same_new hz _
  refine ⟨_, _, .lst (SqL.of (sz _ _ m2)) (ints_dp _), .lst (SqL.of upd_same) .nil, ints_shaped _, nil_shaped, _, rfl, ?_⟩
  rw [eqv_nil]
  have m2 := sz _ _ m2
  have m3 := sz _ _ m3
  generalize upd H z (.lst []) = H1 at m2 m3
  have L := far_reached (by omega) n1 n7 nn O
  have mm := fun x => mem_metL (x := x) n1 n7 O.base
  cases eF : T s pr.length false pr with
  | none =>
    rw [eF] at L
    have L : ∀ m, m ∈ (List.range (2 ^ (pr.length - 1))).map (· + 2 ^ (pr.length - 1)) → look fl m = none := L
    rw [isEmpty_of fun x hx => by
      obtain ⟨m, h1, h2⟩ := (mm x).mp hx
      rw [L m h1] at h2
      cases h2]
    refine iteT ?_
    refine ⟨_, h4, _, h3, l, pr, s, rfl, SqL.of m3, n1, n7, nn, s7, fun H2 s2 => ⟨rfl, _, rfl, ?_⟩⟩
    rw [eF]
    refine iteT ?_
    refine ⟨_, h4, _, h3, l, pr, s, rfl, SqL.of (s2 _ _ m3), n1, n7, nn, s7, fun H3 s3 => ⟨fun eT => ⟨rfl, ?_⟩, fun r ms x eT pa cs => ?_⟩⟩
    · exact q H3
    · rw [eF] at eT
      cases eT
  | some x =>
    rw [eF] at L
    obtain ⟨⟨m, hm1, hm2⟩, L⟩ : (∃ m, m ∈ (List.range (2 ^ (pr.length - 1))).map (· + 2 ^ (pr.length - 1)) ∧ look fl m = some x) ∧ ∀ m y, m ∈ (List.range (2 ^ (pr.length - 1))).map (· + 2 ^ (pr.length - 1)) → look fl m = some y → x ≤ y := L
    have hx : x ∈ metL (2 ^ (pr.length - 1)) fl := (mm x).mpr ⟨m, hm1, hm2⟩
    have least : ∀ k, k ∈ metL (2 ^ (pr.length - 1)) fl → (∀ y, y ∈ metL (2 ^ (pr.length - 1)) fl → k ≤ y) → k = x := fun k hk hmin => by
      obtain ⟨m', h1, h2⟩ := (mm k).mp hk
      have a1 := L m' k h1 h2
      have a2 := hmin x hx
      omega
    have pos : 0 < (metL (2 ^ (pr.length - 1)) fl).length := List.length_pos_of_mem hx
    rw [notEmpty_of hx]
    refine iteF ?_
    refine ⟨_, h4, _, h3, l, pr, s, rfl, SqL.of m3, n1, n7, nn, s7, fun H2 s2 => ?_⟩
    refine ⟨_, h8, D, _, rfl, SqL.of (s2 _ _ m2), pos, fun k hk hmin => ?_⟩
    have ek := least k hk hmin
    subst ek
    refine ⟨by rw [eF] <;> rfl, _, rfl, ?_⟩
    refine ite2 (fun c => ?_) (fun c => ?_)
    · refine ⟨_, h4, _, h3, l, pr, s, rfl, SqL.of (s2 _ _ m3), n1, n7, nn, s7, fun H3 s3 => ⟨fun eT => ?_, fun r ms y eT pa cs => ?_⟩⟩
      · rw [eF] at eT
        cases eT
      rw [eF] at eT
      have ey := Option.some.inj eT
      subst ey
      refine ⟨_, h4, l, pr, SqL.of (s3 _ _ (s2 _ _ m3)), .inr ⟨r, ms, rfl, pa, cs.ok, cs.le, fun H4 s4 => ?_⟩⟩
      refine ⟨_, h8, D, _, rfl, SqL.of (s4 _ _ (s3 _ _ (s2 _ _ m2))), pos, fun k2 hk2 hmin2 => ?_⟩
      have ek2 := least k2 hk2 hmin2
      subst ek2
      refine ⟨_, _, rfl, rfl, .inl ⟨by decide, by decide⟩, rfl, ?_⟩
      have e : decide (V.int (cost pr ms) = V.int (2 * k2)) = true := decide_eq_true (congrArg V.int cs.co)
      exact (congrArg (fun b => Q (V.bl b) H4) e).mpr (q _)
    · exfalso
      have c' : ¬ decide (ofO (T s pr.length false pr) = V.int k) = true := c
      rw [eF, decide_eq_true (show ofO (some k) = V.int k from rfl)] at c'
      exact c' rfl
section
variable {P : Program} {w : World} {K : PySem.W.Frag} {mg : Str → Option Value} {base : Heap}
theorem scLaw : FnScope ["_law_script", "_law_state", "_law_n", "_law_s", "_law_prices", "_law_far_here", "_law_last", "_law_single", "_law_met", "_law_marks"] ["_law_script"] (defScope sLaw) := ⟨rfl, rfl, rfl, by decide +kernel, rfl, by decide +kernel, by decide +kernel⟩
structure Called (P : Program) (w : World) (K : PySem.W.Frag) (mg : Str → Option Value) (base : Heap) (k : Nat) (x : Str) (g : Addr) (gd : FuncData) (ps : List Str) (sp : Sp) : Prop where
  ok : FnOk P w K mg base CX0 k g gd ps sp
  b : Binds K gd ps []
  kp : PySem.W.keepIn K (.ref g) = true
  m : mg x = some (.ref g)
theorem ok_law {k : Nat} {f g1 g2 g3 g4 g5 g6 g7 g8 P0 : Addr} {fd d1 d2 d3 d4 d5 d6 d7 d8 : FuncData} (F : Fun K "law" "law" sLaw f fd) (hk : 3 ≤ k)
    (G1 : Called P w K mg base 1 "_law_draw" g1 d1 ["_law_state", "_law_many_here"] (spDraw K)) (G2 : Called P w K mg base 2 "_law_costs" g2 d2 ["_law_state", "_law_n"] (spCosts K))
    (G3 : Called P w K mg base 3 "_law_far" g3 d3 ["_law_prices", "_law_s"] (spFar2 K P0)) (G4 : Called P w K mg base k "alone" g4 d4 ["costs", "s"] (spValue K true))
    (G5 : Called P w K mg base 1 "_law_cost" g5 d5 ["_law_plan", "_law_prices"] (spCost K)) (G6 : Called P w K mg base k "left_plan" g6 d6 ["costs", "s"] (spPlan K true fun x => x))
    (G7 : Called P w K mg base k "reached" g7 d7 ["costs", "s"] (spValue K false)) (G8 : Called P w K mg base k "shown_plan" g8 d8 ["costs", "s"] (spPlan K false fun x => 2 * x))
    (mi : mg "int" = none) (mm : mg "min" = none) : FnOk P w K mg base CX0 (k + 1) f fd ["_law_script"] (spLaw K P0) := by
  refine F.ok scLaw (fun vs H Q E h => ?_) (fun cdv A outer s0 H vs Q E hr h => ?_)
  · obtain ⟨a, ns, rfl, _⟩ := h
    rfl
  have hu := hu_of hr
  have hr1 := hr.mono (show 1 ≤ k by omega)
  have hr2 := hr.mono (show 2 ≤ k by omega)
  have hr3 := hr.mono (show 3 ≤ k by omega)
  refine ⟨_, pss_cons (ps_set (i := 1) scLaw.nd rfl (Or.inl rfl) (pe_lst (pa_cons (pv 0) (pa_cons pe_int (pa_cons pe_int pa_nil)))))
    (pss_cons (ps_set (i := 2) scLaw.nd rfl (Or.inl rfl) (pe_op op_add pe_int (pe_ix ix_list
      (pe_lst (pa_cons (pe_call G1.ok hr1 rfl G1.m G1.kp G1.b .nil pass0 (pa_cons (pv 1) (pa_cons pe_int pa_nil))) (pa_cons (pe_call G1.ok hr1 rfl G1.m G1.kp G1.b .nil pass0 (pa_cons (pv 1) (pa_cons pe_int pa_nil))) pa_nil)))
      (pe_callTy call_int1 (by rfl) mi (by decide +kernel) (pa_cons (pe_cmpR op_eq (pe_call G1.ok hr1 rfl G1.m G1.kp G1.b .nil pass0 (pa_cons (pv 1) (pa_cons pe_int pa_nil))) pe_int (nomark _)) pa_nil)) (fun _ _ => rfl))))
    (pss_cons (ps_set (i := 3) scLaw.nd rfl (Or.inl rfl) (pe_ix ix_list
      (pe_lst (pa_cons (pe_op op_add pe_int (pe_call G1.ok hr1 rfl G1.m G1.kp G1.b .nil pass0 (pa_cons (pv 1) (pa_cons pe_int pa_nil)))) (pa_cons (pe_call G1.ok hr1 rfl G1.m G1.kp G1.b .nil pass0 (pa_cons (pv 1) (pa_cons pe_int pa_nil))) pa_nil)))
      (pe_callTy call_int1 (by rfl) mi (by decide +kernel) (pa_cons (pe_cmpR op_eq (pe_call G1.ok hr1 rfl G1.m G1.kp G1.b .nil pass0 (pa_cons (pv 1) (pa_cons pe_int pa_nil))) pe_int (nomark _)) pa_nil)) (fun _ _ => rfl)))
    (pss_cons (ps_set (i := 4) scLaw.nd rfl (Or.inl rfl) (pe_call G2.ok hr2 rfl G2.m G2.kp G2.b .nil pass0 (pa_cons (pv 1) (pa_cons (pv 2) pa_nil))))
    (pss_cons (ps_set (i := 5) scLaw.nd rfl (Or.inr rfl) (pe_call G3.ok hr3 rfl G3.m G3.kp G3.b .nil pass0 (pa_cons (pv 4) (pa_cons (pv 3) pa_nil))))
    (pss_cons (ps_set (i := 6) scLaw.nd rfl (Or.inr rfl) (pe_op op_oneShl pe_int (pe_op op_sub (pv 2) pe_int)))
    (pss_cons (ps_set (i := 7) scLaw.nd rfl (Or.inl rfl) (pe_dget1 hu (pv 5) (pv 6) ⟨rfl, rfl, rfl, rfl⟩))
    (pss_cons (ps_lock (ps_setLc (i := 8) (own := [("_law_marks", 9)]) (g := gName 9) (tt := tTest (tOp rNe (tOp (rI0 fun i j => .int (Builtin.bitAnd i j)) (tVar 9) (tVar 6)) (tC (.int 0)))) (te := tDGet (tVar 5) (tVar 9)) rfl scLaw.nd rfl rfl (by rfl) (pi_keys (pv 5))
        (blkOk_by (own := [("_law_marks", 9)]) (N := ["_law_script", "_law_state", "_law_n", "_law_s", "_law_prices", "_law_far_here", "_law_last", "_law_single", "_law_met", "_law_marks"]) (sc := defScope sLaw) (by decide +kernel))
        (fun _ _ _ _ _ => pg_name (i := 9) scLaw.nd rfl (Or.inl rfl))
        (fun _ _ _ _ _ => pts_one (pt_cmpR op_ne (pe_op op_and (pv 9) (pv 6)) pe_int (nomark _)))
        (fun _ _ _ _ _ => pe_dget hu (pv 5) (pv 9) (fun _ _ => rfl))))
    (pss_cons (ps_if (PW.pt (pw_or (pt_cmpR op_ne (pe_call G4.ok hr rfl G4.m G4.kp G4.b .nil pass0 (pa_cons (pv 4) (pa_cons (pv 3) pa_nil))) (pv 7) (nomark _))
        (pw_or1 (pt_cmpR op_ne (pe_call G5.ok hr1 rfl G5.m G5.kp G5.b .nil pass0 (pa_cons (pe_call G6.ok hr rfl G6.m G6.kp G6.b .nil pass0 (pa_cons (pv 4) (pa_cons (pv 3) pa_nil))) (pa_cons (pv 4) pa_nil))) (pv 7) (nomark _)))))
      (pss_one (ps_ret pe_bl)) pss_nil)
    (pss_cons (ps_if (pt_cmpR (op_eqD hr.units) (pv 8) (pe_lst pa_nil) (nomark _))
      (pss_one (ps_ret (pe_and (pe_cmpR op_isN (pe_call G7.ok hr rfl G7.m G7.kp G7.b .nil pass0 (pa_cons (pv 4) (pa_cons (pv 3) pa_nil))) pe_non (nomark _))
        (pe_one (pe_cmpR op_isN (pe_call G8.ok hr rfl G8.m G8.kp G8.b .nil pass0 (pa_cons (pv 4) (pa_cons (pv 3) pa_nil))) pe_non (nomark _)))))) pss_nil)
    (pss_one (ps_ret (pe_and (pe_cmpR op_eq (pe_call G7.ok hr rfl G7.m G7.kp G7.b .nil pass0 (pa_cons (pv 4) (pa_cons (pv 3) pa_nil))) (pe_callB (cr_min rfl) (by rfl) mm (by decide +kernel) (pa_cons (pv 8) pa_nil)) (nomark _))
      (pe_one (pe_cmpR op_eq (pe_call G5.ok hr1 rfl G5.m G5.kp G5.b .nil pass0 (pa_cons (pe_call G8.ok hr rfl G8.m G8.kp G8.b .nil pass0 (pa_cons (pv 4) (pa_cons (pv 3) pa_nil))) (pa_cons (pv 4) pa_nil)))
        (pe_op op_mul pe_int (pe_callB (cr_min rfl) (by rfl) mm (by decide +kernel) (pa_cons (pv 8) pa_nil))) (nomark _))))))))))))))), ?_⟩
  obtain ⟨a, ns, rfl, hS, hP, q⟩ := h
  refine ⟨_, rfl, (by show 3 ≤ sizeLine; decide), fun p hp => ?_⟩
  have s0 : Same H (upd H p (.lst [.ref a, .int 0, .int 0])) := same_new hp _
  have hS0 := s0.seq hS
  have hp0 : (upd H p (.lst [.ref a, .int 0, .int 0])) p = some (.lst [.ref a, .int 0, .int 0]) := upd_same
  have hP0 := s0 _ _ hP
  generalize upd H p (.lst [.ref a, .int 0, .int 0]) = H0 at hS0 hp0 hP0
  have hPp : P0 ≠ p := ne_of hP0 hp0 fun z => by cases z
  -- n
  refine ⟨_, rfl, p, a, ns, 0, 0, 5, rfl, hp0, hS0, by decide, by decide, by decide, fun x1 k1 r1 H1 a1 a2 a3 a4 a5 => ?_⟩
  refine ⟨_, rfl, p, a, ns, k1, r1, 7, rfl, a4, seq_kp hS0 hp0 a5, a3, by decide, by decide, fun x2 k2 r2 H2 b1 b2 b3 b4 b5 => ?_⟩
  refine ⟨(by show 2 ≤ sizeLine; decide), fun t ht => ?_⟩
  have nt : p ≠ t := ne_of_none b4 ht
  have kt : Kp p H0 (upd H2 t (.lst [.int x1, .int x2])) := (a5.trans b5).trans (Kp.new ht)
  refine ⟨_, rfl, p, a, ns, k2, r2, 4, rfl, by rw [upd_ne nt]; exact b4, seq_kp hS0 hp0 kt, b3, by decide, by decide, fun x3 k3 r3 H3 c1 c2 c3 c4 c5 => ?_⟩
  refine ⟨rfl, .inr ⟨_, rfl, t, _, _, _, rfl, rfl, SqL.of (c5 _ _ upd_same nt.symm), pick x1 x2 _, _, _, rfl, rfl, ?_⟩⟩
  obtain ⟨n, hn, n1, n7⟩ : ∃ n : Nat, 1 + (if decide (V.int x3 = V.int 1) = true then x2 else x1) = (n : Int) ∧ 1 ≤ n ∧ n ≤ 7 := by
    have h : 0 ≤ (if decide (V.int x3 = V.int 1) = true then x2 else x1) ∧ (if decide (V.int x3 = V.int 1) = true then x2 else x1) < 7 := by split <;> omega
    generalize (if decide (V.int x3 = V.int 1) = true then x2 else x1) = z at h
    exact ⟨(1 + z).toNat, by omega, by omega, by omega⟩
  have kc : Kp p H0 H3 := kt.trans c5
  -- s
  refine ⟨_, rfl, p, a, ns, k3, r3, 3, rfl, c4, seq_kp hS0 hp0 kc, c3, by decide, by decide, fun y1 k4 r4 H4 d1 d2 d3 d4 d5 => ⟨_, _, rfl, rfl, ?_⟩⟩
  have kd4 := kc.trans d5
  refine ⟨_, rfl, p, a, ns, k4, r4, 8, rfl, d4, seq_kp hS0 hp0 kd4, d3, by decide, by decide, fun y2 k5 r5 H5 e1 e2 e3 e4 e5 => ?_⟩
  refine ⟨(by show 2 ≤ sizeLine; decide), fun t2 ht2 => ?_⟩
  have nt2 : p ≠ t2 := ne_of_none e4 ht2
  have kt2 : Kp p H0 (upd H5 t2 (.lst [.int (1 + y1), .int y2])) := (kd4.trans e5).trans (Kp.new ht2)
  refine ⟨_, rfl, p, a, ns, k5, r5, 4, rfl, by rw [upd_ne nt2]; exact e4, seq_kp hS0 hp0 kt2, e3, by decide, by decide, fun y3 k6 r6 H6 f1 f2 f3 f4 f5 => ?_⟩
  refine ⟨rfl, .inr ⟨_, rfl, t2, _, _, _, rfl, rfl, SqL.of (f5 _ _ upd_same nt2.symm), pick (1 + y1) y2 _, ?_⟩⟩
  obtain ⟨s, hs, s7⟩ : ∃ s : Nat, (if decide (V.int y3 = V.int 1) = true then y2 else 1 + y1) = (s : Int) ∧ s ≤ 7 := by
    have h : 0 ≤ (if decide (V.int y3 = V.int 1) = true then y2 else 1 + y1) ∧ (if decide (V.int y3 = V.int 1) = true then y2 else 1 + y1) < 8 := by split <;> omega
    generalize (if decide (V.int y3 = V.int 1) = true then y2 else 1 + y1) = z at h
    exact ⟨z.toNat, by omega, by omega⟩
  have k6' : Kp p H0 H6 := kt2.trans f5
  -- the prices
  refine ⟨_, rfl, _, rfl, p, a, ns, k6, r6, n, congrArg (fun z => [V.ref p, V.int z]) hn, f4, seq_kp hS0 hp0 k6', f3, n1, n7, fun l pr H7 g1 g2 g3 g4 g5 => ?_⟩
  have k7 : Kp p H0 H7 := k6'.trans g5
  have hP7 := k7 _ _ hP0 hPp
  have nn : NonNeg pr := fun x hx => by have := (g2 x hx).1; omega
  have tabs : Tabs (farT P0) H7 := fun p hp => by
    rw [List.mem_singleton.mp hp]
    exact TabS.nil hP7
  subst g1
  -- the walk
  refine ⟨_, rfl, _, rfl, l, pr, s, congrArg (fun z => [V.ref l, V.int z]) hs, SqL.of g3, n1, n7, nn, s7, tabs, fun d fl H8 x8 hd O => ?_⟩
  have hl8 := x8 _ _ g3 fun _ z => by cases z
  have hld : l ≠ d := ne_of hl8 hd fun z => by cases z
  have B := O.base
  have fl128 := base_len B n7
  refine ⟨_, rfl, _, _, rfl, rfl, pr.length - 1, rfl, congrArg V.int (show (1 + (if decide (V.int x3 = V.int 1) = true then x2 else x1)) - 1 = ((pr.length - 1 : Nat) : Int) by omega), by omega, ?_⟩
  have e2p : ((2 : Int) ^ (pr.length - 1)) = ((2 ^ (pr.length - 1) : Nat) : Int) := by rw [Int.natCast_pow] <;> rfl
  have dg8 : DGet H8 d (.int ((2 : Int) ^ (pr.length - 1))) ((look fl (2 ^ (pr.length - 1))).map V.int) := by
    have := DGet.k (k := Sum.inl ((2 ^ (pr.length - 1) : Nat) : Int)) hd
    rw [valV_kd] at this
    rw [e2p]
    exact this
  refine ⟨_, rfl, d, rfl, .inl ⟨kd fl, .inl hd⟩, _, rfl, (look fl (2 ^ (pr.length - 1))).map V.int, dg8, ?_⟩
  have eo : ((look fl (2 ^ (pr.length - 1))).map V.int).getD .non = ofO (T s pr.length true pr) := by
    have := far_alone (by omega) n1 n7 nn O
    rw [Nat.shiftLeft_eq, Nat.one_mul] at this
    rw [this]
    cases T s pr.length true pr <;> rfl
  rw [eo]
  -- what is met
  refine ⟨d, .dK (kd fl), hd, True.intro, fun od => ⟨_, rfl, d, od, rfl, .inl ⟨kd fl, upd_same, fun D hD => lc_it (walk_keys (d := d) (o := od) (kvs := kd fl)) (fun i H1 => H1 D = some (.lst ((metL (2 ^ (pr.length - 1)) (fl.take i)).map V.int)) ∧ Same (upd H8 d (.frz od (.dK (kd fl)))) H1) ?_ ?_ ?_ ?_⟩⟩⟩
  · exact ⟨upd_same, same_new hD _⟩
  · rintro i H1 _ ⟨_, s1⟩
    exact s1 _ _ upd_same
  · rintro i x H1 H2 hi ⟨m1, s1⟩ ⟨rfl, kk, v, hkv, rfl⟩
    obtain ⟨u, hu1, hu2⟩ : ∃ u, fl[i]? = some u ∧ ((Sum.inl ((u.1 : Nat) : Int) : Key), V.int u.2) = (kk, v) := by
      unfold kd at hkv
      rw [List.getElem?_map] at hkv
      obtain ⟨u, h1, h2⟩ := Option.map_eq_some_iff.mp hkv
      exact ⟨u, h1, h2⟩
    injection hu2 with hu3 hu4
    subst hu3 hu4
    have em : fl.take (i + 1) = fl.take i ++ [u] := by
      rw [List.take_add_one, hu1] <;> rfl
    have ml : (metL (2 ^ (pr.length - 1)) (fl.take i)).length ≤ 128 := by
      have h1 := List.length_filterMap_le (fun p : Nat × Int => if p.1 &&& 2 ^ (pr.length - 1) = 0 then none else some p.2) (fl.take i)
      rw [List.length_take] at h1
      show (List.filterMap _ _).length ≤ 128
      omega
    have eb : Builtin.bitAnd ((u.1 : Nat) : Int) ((2 : Int) ^ (pr.length - 1)) = ((u.1 &&& 2 ^ (pr.length - 1) : Nat) : Int) := by
      rw [e2p]
      exact PySem.W.os_band _ _
    refine ⟨rfl, ?_⟩
    refine ⟨_, rfl, _, rfl, _, _, rfl, rfl, rfl, _, rfl, ?_⟩
    refine ite2 (fun c => ?_) (fun c => ?_)
    · have c1 : ¬ u.1 &&& 2 ^ (pr.length - 1) = 0 := fun z => by
        have z2 : V.int (Builtin.bitAnd ((u.1 : Nat) : Int) ((2 : Int) ^ (pr.length - 1))) = V.int 0 := by rw [eb, z] <;> rfl
        have c' : (!decide (V.int (Builtin.bitAnd ((u.1 : Nat) : Int) ((2 : Int) ^ (pr.length - 1))) = V.int 0)) = true := c
        rw [decide_eq_true z2] at c'
        cases c'
      have dg : DGet H2 d (.int ((u.1 : Nat) : Int)) (some (.int u.2)) := by
        refine .inl ⟨kd fl, Sum.inl ((u.1 : Nat) : Int), .inr ⟨od, s1 _ _ upd_same⟩, rfl, ?_⟩
        rw [valV_kd, look_of_mem B.nd (show (u.1, u.2) ∈ fl from List.mem_of_getElem? hu1)] <;> rfl
      refine ⟨_, rfl, _, rfl, d, _, rfl, dg, ?_⟩
      refine ⟨_, m1, (by rw [List.length_map, sizeLine_eq]; omega), ?_, fun b o e => ?_⟩
      · rw [upd_same, em, metL_app, List.map_append]
        have : metL (2 ^ (pr.length - 1)) [u] = [u.2] := by
          unfold metL
          rw [List.filterMap_cons, if_neg c1] <;> rfl
        rw [this] <;> rfl
      · rw [upd_ne (ne_of_none e hD)]
        exact s1 b o e
    · have c1 : u.1 &&& 2 ^ (pr.length - 1) = 0 := by
        have c' : ¬ (!decide (V.int (Builtin.bitAnd ((u.1 : Nat) : Int) ((2 : Int) ^ (pr.length - 1))) = V.int 0)) = true := c
        by_cases z : V.int (Builtin.bitAnd ((u.1 : Nat) : Int) ((2 : Int) ^ (pr.length - 1))) = V.int 0
        · injection z with z
          rw [eb] at z
          exact Int.ofNat.inj z
        · rw [decide_eq_false z] at c'
          exact absurd rfl c'
      refine ⟨?_, s1⟩
      rw [em, metL_app]
      have : metL (2 ^ (pr.length - 1)) [u] = [] := by
        unfold metL
        rw [List.filterMap_cons, if_pos c1] <;> rfl
      rw [this, List.append_nil]
      exact m1
  rintro HF ⟨m1, sF⟩
  refine ⟨sF _ _ upd_same, ?_⟩
  rw [kd_len, List.take_length] at m1
  have hDd : D ≠ d := fun e => by rw [e, upd_same] at hD; cases hD
  have m2 : (upd HF d (.dK (kd fl))) D = some (.lst ((metL (2 ^ (pr.length - 1)) fl).map V.int)) := by
    rw [upd_ne hDd]
    exact m1
  have m3 : (upd HF d (.dK (kd fl))) l = some (.lst (pr.map V.int)) := by
    rw [upd_ne hld]
    exact sF _ _ (by rw [upd_ne hld]; exact hl8)
  generalize upd HF d (.dK (kd fl)) = H9 at m2 m3
  have args : [V.ref l, V.int (if decide (V.int y3 = V.int 1) = true then y2 else 1 + y1)] = [V.ref l, V.int (s : Int)] := congrArg (fun z => [V.ref l, V.int z]) hs
  refine ⟨_, rfl, _, rfl, l, pr, s, args, SqL.of m3, n1, n7, nn, s7, fun H10 s10 => ?_⟩
  refine ⟨_, rfl, scal_ofO _ _, _, rfl, ?_⟩
  refine ite2 (fun c => ?_) (fun c => ?_)
  · exfalso
    have c' : (!decide (ofO (T s pr.length true pr) = ofO (T s pr.length true pr))) = true := c
    rw [decide_eq_true rfl] at c'
    cases c'
  refine ⟨_, rfl, _, rfl, l, pr, s, args, SqL.of (s10 _ _ m3), n1, n7, nn, s7, fun H11 s11 => ⟨fun eT => ?_, fun r ms x eT pa cs => ?_⟩⟩
  · refine ⟨_, rfl, l, pr, SqL.of (s11 _ _ (s10 _ _ m3)), .inl ⟨rfl, ?_⟩⟩
    refine ⟨_, rfl, (by rw [eT] <;> rfl), _, rfl, ?_⟩
    refine ite2 (fun c => ?_) (fun c => ?_)
    · exfalso
      have c' : (!decide (V.non = ofO (T s pr.length true pr))) = true := c
      rw [eT, decide_eq_true (show V.non = ofO none from rfl)] at c'
      cases c'
    exact law_end rfl (congrArg (fun z => some (some (V.int z))) hs) rfl (s11 _ _ (s10 _ _ m2)) (s11 _ _ (s10 _ _ m3)) n1 n7 nn s7 O q
  · refine ⟨_, rfl, l, pr, SqL.of (s11 _ _ (s10 _ _ m3)), .inr ⟨r, ms, rfl, pa, cs.ok, cs.le, fun H12 s12 => ?_⟩⟩
    refine ⟨_, rfl, (by rw [eT] <;> rfl), _, rfl, ?_⟩
    refine ite2 (fun c => ?_) (fun c => ?_)
    · exfalso
      have c' : (!decide (V.int (cost pr ms) = ofO (T s pr.length true pr))) = true := c
      rw [eT, decide_eq_true (show V.int (cost pr ms) = ofO (some x) from congrArg V.int cs.co)] at c'
      cases c'
    exact law_end rfl (congrArg (fun z => some (some (V.int z))) hs) rfl (s12 _ _ (s11 _ _ (s10 _ _ m2))) (s12 _ _ (s11 _ _ (s10 _ _ m3))) n1 n7 nn s7 O q
end
end K38
/-! K38: the head. -/
namespace K38
open PySem PySem.Spec PyProof.Rows L2
def dOf (p : Str × Option Str) (x qual : Str) (st : Stmt) : He.DefD := ⟨p, x, qual, defArgs st, defBody st, defScope st, [], []⟩
def fnL : List He.DefD := [
  dOf ("Table", some "__init__") "__init__" "Table.__init__" sTInit,
  dOf ("Table", some "least") "least" "Table.least" sLeast,
  dOf ("Table", some "sought") "sought" "Table.sought" sSought,
  dOf ("Table", some "by_cut") "by_cut" "Table.by_cut" sByCut,
  dOf ("Table", some "best_cut") "best_cut" "Table.best_cut" sBest,
  dOf ("reach", none) "reach" "reach" sReach,
  dOf ("alone_reach", none) "alone_reach" "alone_reach" sAloneReach,
  dOf ("farthest", none) "farthest" "farthest" sFarthest,
  dOf ("alone", none) "alone" "alone" sAlone,
  dOf ("reached", none) "reached" "reached" sReached,
  dOf ("turned_move", none) "turned_move" "turned_move" sTurnedMove,
  dOf ("turned_plan", none) "turned_plan" "turned_plan" sTurnedPlan,
  dOf ("Planner", some "__init__") "__init__" "Planner.__init__" sPInit,
  dOf ("Planner", some "way") "way" "Planner.way" sWay,
  dOf ("Planner", some "whole_way") "whole_way" "Planner.whole_way" sWhole,
  dOf ("left_plan", none) "left_plan" "left_plan" sLeft,
  dOf ("shown_plan", none) "shown_plan" "shown_plan" sShown,
  dOf ("_law_draw", none) "_law_draw" "_law_draw" sDraw,
  dOf ("_law_costs", none) "_law_costs" "_law_costs" sCosts,
  dOf ("_law_many", none) "_law_many" "_law_many" sMany,
  dOf ("_law_next", none) "_law_next" "_law_next" sNext,
  dOf ("_law_far", none) "_law_far" "_law_far" sFar,
  dOf ("_law_cost", none) "_law_cost" "_law_cost" sCost,
  dOf ("law", none) "law" "law" sLaw]
def faL : List He.Fa := [
  .glo "Table", .glo "Planner", .glo "reach", .glo "alone_reach", .glo "farthest", .glo "alone", .glo "reached", .glo "turned_move", .glo "turned_plan", .glo "left_plan", .glo "shown_plan",
  .glo "_law_draw", .glo "_law_costs", .glo "_law_many", .glo "_law_next", .glo "_law_far", .glo "_law_cost", .glo "law",
  .free "list", .free "sum", .free "range", .free "len", .free "abs", .free "divmod", .free "min", .free "int", .free "reversed",
  .cls "Table", .noat "Table" "costs", .noat "Table" "known", .meth "Table" "least", .meth "Table" "sought", .meth "Table" "by_cut", .meth "Table" "best_cut", .mkr "Table",
  .cls "Planner", .noat "Planner" "table", .noat "Planner" "n", .meth "Planner" "way", .meth "Planner" "whole_way", .mkr "Planner"]
def tfL : List He.Defn := [("_law_far", none)]
def looseL : List Str := ["Table", "reach", "alone_reach", "farthest", "alone", "reached", "turned_move", "turned_plan", "Planner", "left_plan", "shown_plan", "_law_draw", "_law_costs", "_law_many", "_law_next", "_law_far", "_law_cost"]
abbrev RowK : PySem.W.OpenRow := PySem.W.OpenLaw.row PySem.Challenge.rw_nolitter_k38_whole_none_is_cheaper
abbrev hkL : PySem.W.Hook := He.hookX 6 faL fnL [] tfL fun _ => true
def obL (s : PySem.W.SharedT) : He.AlX := He.obsX 6 faL fnL [] tfL (fun _ => true) (HandSHeadRun.getT s)
theorem obL_eq (s : PySem.W.SharedT) : obL s = hkL.obs s.abs := He.obsX_eq (HandSHeadRun.getT_eq s)
theorem run (w : World) : HandSHeadRun.RunEq RowK (PySem.W.view RowK.prog [21]) hkL obL 2000 looseL w := by
  intro os
  kernel_rfl
end K38
/-! K38: all defs together; the law holds. -/
namespace K38
open PySem PySem.Spec PyProof.Rows L2 LamX
theorem fun_of {K : PySem.W.Frag} {x qual : Str} {st : Stmt} {f : Addr} {fd : FuncData} (F : FunD K x qual (defArgs st) (defBody st) (defScope st) [] [] f fd) : Fun K x qual st f fd := by
  obtain ⟨⟨oc, od, dV, kV, doc, pm, an, cdv, ct, osl, e, lk, hcd, hd, _⟩, kp⟩ := F
  have hn : dV = .none := by
    rcases hd with ⟨_, h⟩ | ⟨h, _⟩
    · exact h
    · exact absurd rfl h
  subst hn
  exact ⟨⟨oc, od, kV, doc, pm, an, cdv, ct, osl, e, lk, hcd⟩, kp⟩
theorem bind1 {K : PySem.W.Frag} {x qual : Str} {st : Stmt} {f : Addr} {fd : FuncData} {a : Str} (F : Fun K x qual st f fd) (h : ∀ (kV doc pm : Value) (an : Option Addr) (cdv ct : Value) (u : Value), bindArgs (PySem.W.fnOf x qual (defArgs st) (defBody st) (defScope st) .none kV doc pm an cdv ct) ⟨[u], []⟩ = pure [(a, u)]) : Binds K fd [a] [] :=
  F.binds fun kV doc pm an cdv ct us hl => match us, hl with
    | [u], _ => h kV doc pm an cdv ct u
theorem facts {w : World} {K : PySem.W.Frag} {h : Heap} {mg : Str → Option Value} {fa : Addr} (X : K.In h) (G : h.Ns mainGlobals mg) (hfa : mg ("law" : Str) = some (.ref fa)) (c : He.SaysX faL fnL [] tfL (fun _ => true) w h K) :
    LawAtS PySem.Challenge.rw_nolitter_k38_whole_none_is_cheaper w K CX0 41 63 "_law_script" mg fa h := by
  have cd := c.t.d
  obtain ⟨d0, F0⟩ : ∃ fd, FunD K "__init__" "Table.__init__" (defArgs sTInit) (defBody sTInit) (defScope sTInit) [] [] (He.fAd K ("Table", some "__init__")) fd := cd.def_ 0 rfl
  have F0 := fun_of F0
  obtain ⟨d1, F1⟩ : ∃ fd, FunD K "least" "Table.least" (defArgs sLeast) (defBody sLeast) (defScope sLeast) [] [] (He.fAd K ("Table", some "least")) fd := cd.def_ 1 rfl
  have F1 := fun_of F1
  obtain ⟨d2, F2⟩ : ∃ fd, FunD K "sought" "Table.sought" (defArgs sSought) (defBody sSought) (defScope sSought) [] [] (He.fAd K ("Table", some "sought")) fd := cd.def_ 2 rfl
  have F2 := fun_of F2
  obtain ⟨d3, F3⟩ : ∃ fd, FunD K "by_cut" "Table.by_cut" (defArgs sByCut) (defBody sByCut) (defScope sByCut) [] [] (He.fAd K ("Table", some "by_cut")) fd := cd.def_ 3 rfl
  have F3 := fun_of F3
  obtain ⟨d4, F4⟩ : ∃ fd, FunD K "best_cut" "Table.best_cut" (defArgs sBest) (defBody sBest) (defScope sBest) [] [] (He.fAd K ("Table", some "best_cut")) fd := cd.def_ 4 rfl
  have F4 := fun_of F4
  obtain ⟨d5, F5⟩ : ∃ fd, FunD K "reach" "reach" (defArgs sReach) (defBody sReach) (defScope sReach) [] [] (He.fAd K ("reach", none)) fd := cd.def_ 5 rfl
  have F5 := fun_of F5
  obtain ⟨d6, F6⟩ : ∃ fd, FunD K "alone_reach" "alone_reach" (defArgs sAloneReach) (defBody sAloneReach) (defScope sAloneReach) [] [] (He.fAd K ("alone_reach", none)) fd := cd.def_ 6 rfl
  have F6 := fun_of F6
  obtain ⟨d7, F7⟩ : ∃ fd, FunD K "farthest" "farthest" (defArgs sFarthest) (defBody sFarthest) (defScope sFarthest) [] [] (He.fAd K ("farthest", none)) fd := cd.def_ 7 rfl
  have F7 := fun_of F7
  obtain ⟨d8, F8⟩ : ∃ fd, FunD K "alone" "alone" (defArgs sAlone) (defBody sAlone) (defScope sAlone) [] [] (He.fAd K ("alone", none)) fd := cd.def_ 8 rfl
  have F8 := fun_of F8
  obtain ⟨d9, F9⟩ : ∃ fd, FunD K "reached" "reached" (defArgs sReached) (defBody sReached) (defScope sReached) [] [] (He.fAd K ("reached", none)) fd := cd.def_ 9 rfl
  have F9 := fun_of F9
  obtain ⟨d10, F10⟩ : ∃ fd, FunD K "turned_move" "turned_move" (defArgs sTurnedMove) (defBody sTurnedMove) (defScope sTurnedMove) [] [] (He.fAd K ("turned_move", none)) fd := cd.def_ 10 rfl
  have F10 := fun_of F10
  obtain ⟨d11, F11⟩ : ∃ fd, FunD K "turned_plan" "turned_plan" (defArgs sTurnedPlan) (defBody sTurnedPlan) (defScope sTurnedPlan) [] [] (He.fAd K ("turned_plan", none)) fd := cd.def_ 11 rfl
  have F11 := fun_of F11
  obtain ⟨d12, F12⟩ : ∃ fd, FunD K "__init__" "Planner.__init__" (defArgs sPInit) (defBody sPInit) (defScope sPInit) [] [] (He.fAd K ("Planner", some "__init__")) fd := cd.def_ 12 rfl
  have F12 := fun_of F12
  obtain ⟨d13, F13⟩ : ∃ fd, FunD K "way" "Planner.way" (defArgs sWay) (defBody sWay) (defScope sWay) [] [] (He.fAd K ("Planner", some "way")) fd := cd.def_ 13 rfl
  have F13 := fun_of F13
  obtain ⟨d14, F14⟩ : ∃ fd, FunD K "whole_way" "Planner.whole_way" (defArgs sWhole) (defBody sWhole) (defScope sWhole) [] [] (He.fAd K ("Planner", some "whole_way")) fd := cd.def_ 14 rfl
  have F14 := fun_of F14
  obtain ⟨d15, F15⟩ : ∃ fd, FunD K "left_plan" "left_plan" (defArgs sLeft) (defBody sLeft) (defScope sLeft) [] [] (He.fAd K ("left_plan", none)) fd := cd.def_ 15 rfl
  have F15 := fun_of F15
  obtain ⟨d16, F16⟩ : ∃ fd, FunD K "shown_plan" "shown_plan" (defArgs sShown) (defBody sShown) (defScope sShown) [] [] (He.fAd K ("shown_plan", none)) fd := cd.def_ 16 rfl
  have F16 := fun_of F16
  obtain ⟨d17, F17⟩ : ∃ fd, FunD K "_law_draw" "_law_draw" (defArgs sDraw) (defBody sDraw) (defScope sDraw) [] [] (He.fAd K ("_law_draw", none)) fd := cd.def_ 17 rfl
  have F17 := fun_of F17
  obtain ⟨d18, F18⟩ : ∃ fd, FunD K "_law_costs" "_law_costs" (defArgs sCosts) (defBody sCosts) (defScope sCosts) [] [] (He.fAd K ("_law_costs", none)) fd := cd.def_ 18 rfl
  have F18 := fun_of F18
  obtain ⟨d19, F19⟩ : ∃ fd, FunD K "_law_many" "_law_many" (defArgs sMany) (defBody sMany) (defScope sMany) [] [] (He.fAd K ("_law_many", none)) fd := cd.def_ 19 rfl
  have F19 := fun_of F19
  obtain ⟨d20, F20⟩ : ∃ fd, FunD K "_law_next" "_law_next" (defArgs sNext) (defBody sNext) (defScope sNext) [] [] (He.fAd K ("_law_next", none)) fd := cd.def_ 20 rfl
  have F20 := fun_of F20
  obtain ⟨d21, F21⟩ : ∃ fd, FunD K "_law_far" "_law_far" (defArgs sFar) (defBody sFar) (defScope sFar) [] [] (He.fAd K ("_law_far", none)) fd := cd.def_ 21 rfl
  have F21 := fun_of F21
  obtain ⟨d22, F22⟩ : ∃ fd, FunD K "_law_cost" "_law_cost" (defArgs sCost) (defBody sCost) (defScope sCost) [] [] (He.fAd K ("_law_cost", none)) fd := cd.def_ 22 rfl
  have F22 := fun_of F22
  obtain ⟨d23, F23⟩ : ∃ fd, FunD K "law" "law" (defArgs sLaw) (defBody sLaw) (defScope sLaw) [] [] (He.fAd K ("law", none)) fd := cd.def_ 23 rfl
  have g_Table := He.glo_ok X G (cd.fact 0 (f := .glo "Table") rfl)
  have g_Planner := He.glo_ok X G (cd.fact 1 (f := .glo "Planner") rfl)
  have g_reach := He.glo_ok X G (cd.fact 2 (f := .glo "reach") rfl)
  have g_alone_reach := He.glo_ok X G (cd.fact 3 (f := .glo "alone_reach") rfl)
  have g_farthest := He.glo_ok X G (cd.fact 4 (f := .glo "farthest") rfl)
  have g_alone := He.glo_ok X G (cd.fact 5 (f := .glo "alone") rfl)
  have g_reached := He.glo_ok X G (cd.fact 6 (f := .glo "reached") rfl)
  have g_turned_move := He.glo_ok X G (cd.fact 7 (f := .glo "turned_move") rfl)
  have g_turned_plan := He.glo_ok X G (cd.fact 8 (f := .glo "turned_plan") rfl)
  have g_left_plan := He.glo_ok X G (cd.fact 9 (f := .glo "left_plan") rfl)
  have g_shown_plan := He.glo_ok X G (cd.fact 10 (f := .glo "shown_plan") rfl)
  have g__law_draw := He.glo_ok X G (cd.fact 11 (f := .glo "_law_draw") rfl)
  have g__law_costs := He.glo_ok X G (cd.fact 12 (f := .glo "_law_costs") rfl)
  have g__law_many := He.glo_ok X G (cd.fact 13 (f := .glo "_law_many") rfl)
  have g__law_next := He.glo_ok X G (cd.fact 14 (f := .glo "_law_next") rfl)
  have g__law_far := He.glo_ok X G (cd.fact 15 (f := .glo "_law_far") rfl)
  have g__law_cost := He.glo_ok X G (cd.fact 16 (f := .glo "_law_cost") rfl)
  have g_law := He.glo_ok X G (cd.fact 17 (f := .glo "law") rfl)
  have f_list := He.free_ok X G (cd.fact 18 (f := .free "list") rfl)
  have f_sum := He.free_ok X G (cd.fact 19 (f := .free "sum") rfl)
  have f_range := He.free_ok X G (cd.fact 20 (f := .free "range") rfl)
  have f_len := He.free_ok X G (cd.fact 21 (f := .free "len") rfl)
  have f_abs := He.free_ok X G (cd.fact 22 (f := .free "abs") rfl)
  have f_divmod := He.free_ok X G (cd.fact 23 (f := .free "divmod") rfl)
  have f_min := He.free_ok X G (cd.fact 24 (f := .free "min") rfl)
  have f_int := He.free_ok X G (cd.fact 25 (f := .free "int") rfl)
  have f_reversed := He.free_ok X G (cd.fact 26 (f := .free "reversed") rfl)
  have b0 : Binds K d0 ["self", "costs"] [] := F0.binds fun _ _ _ _ _ _ us hl => match us, hl with | [_, _], _ => rfl
  have b1 : Binds K d1 psT [] := F1.binds fun _ _ _ _ _ _ us hl => match us, hl with | [_, _, _, _, _], _ => rfl
  have b2 : Binds K d2 psT [] := F2.binds fun _ _ _ _ _ _ us hl => match us, hl with | [_, _, _, _, _], _ => rfl
  have b3 : Binds K d3 psB [] := F3.binds fun _ _ _ _ _ _ us hl => match us, hl with | [_, _, _, _, _, _], _ => rfl
  have b4 : Binds K d4 psT [] := F4.binds fun _ _ _ _ _ _ us hl => match us, hl with | [_, _, _, _, _], _ => rfl
  have b5 : Binds K d5 ["s"] [] := F5.binds fun _ _ _ _ _ _ us hl => match us, hl with | [_], _ => rfl
  have b6 : Binds K d6 ["s"] [] := F6.binds fun _ _ _ _ _ _ us hl => match us, hl with | [_], _ => rfl
  have b7 : Binds K d7 ["s", "is_alone"] [] := F7.binds fun _ _ _ _ _ _ us hl => match us, hl with | [_, _], _ => rfl
  have b8 : Binds K d8 ["costs", "s"] [] := F8.binds fun _ _ _ _ _ _ us hl => match us, hl with | [_, _], _ => rfl
  have b9 : Binds K d9 ["costs", "s"] [] := F9.binds fun _ _ _ _ _ _ us hl => match us, hl with | [_, _], _ => rfl
  have b10 : Binds K d10 ["move"] [] := F10.binds fun _ _ _ _ _ _ us hl => match us, hl with | [_], _ => rfl
  have b11 : Binds K d11 ["plan"] [] := F11.binds fun _ _ _ _ _ _ us hl => match us, hl with | [_], _ => rfl
  have b12 : Binds K d12 ["self", "costs"] [] := F12.binds fun _ _ _ _ _ _ us hl => match us, hl with | [_, _], _ => rfl
  have b13 : Binds K d13 psT [] := F13.binds fun _ _ _ _ _ _ us hl => match us, hl with | [_, _, _, _, _], _ => rfl
  have b14 : Binds K d14 ["self", "s", "is_alone"] [] := F14.binds fun _ _ _ _ _ _ us hl => match us, hl with | [_, _, _], _ => rfl
  have b15 : Binds K d15 ["costs", "s"] [] := F15.binds fun _ _ _ _ _ _ us hl => match us, hl with | [_, _], _ => rfl
  have b16 : Binds K d16 ["costs", "s"] [] := F16.binds fun _ _ _ _ _ _ us hl => match us, hl with | [_, _], _ => rfl
  have b17 : Binds K d17 ["_law_state", "_law_many_here"] [] := F17.binds fun _ _ _ _ _ _ us hl => match us, hl with | [_, _], _ => rfl
  have b18 : Binds K d18 ["_law_state", "_law_n"] [] := F18.binds fun _ _ _ _ _ _ us hl => match us, hl with | [_, _], _ => rfl
  have b19 : Binds K d19 ["_law_marks"] [] := F19.binds fun _ _ _ _ _ _ us hl => match us, hl with | [_], _ => rfl
  have b20 : Binds K d20 ["_law_marks", "_law_n", "_law_s"] [] := F20.binds fun _ _ _ _ _ _ us hl => match us, hl with | [_, _, _], _ => rfl
  have b21 : Binds K d21 ["_law_prices", "_law_s"] [] := F21.binds fun _ _ _ _ _ _ us hl => match us, hl with | [_, _], _ => rfl
  have b22 : Binds K d22 ["_law_plan", "_law_prices"] [] := F22.binds fun _ _ _ _ _ _ us hl => match us, hl with | [_, _], _ => rfl
  have e := hfa.symm.trans g_law
  cases e
  have bl := FunD.bindsA (ps := ["_law_script"]) F23 fun _ _ _ _ _ _ us hl => match us, hl with | [_], _ => rfl
  have F23 := fun_of F23
  obtain ⟨oc, od, kV, doc, pm, an, cdv, ct, osl, efar, lfar, hcfar⟩ := F21.ex
  obtain ⟨c0, rfl⟩ := He.codeIn_ref hcfar
  have ecode : d21.code = .ref c0 := by rw [efar] <;> rfl
  have ec0 : He.codeOf K ("_law_far", none) = c0 := He.codeOf_eq lfar ecode
  have tx : TxT K mg (He.ga K "Table") (He.fAd K ("Table", some "least")) (He.fAd K ("Table", some "sought")) (He.fAd K ("Table", some "by_cut")) (He.fAd K ("Table", some "best_cut")) :=
    ⟨(He.cls_ok (cd.fact 27 (f := .cls "Table") rfl)), (He.noat_ok (cd.fact 28 (f := .noat "Table" "costs") rfl)), (He.noat_ok (cd.fact 29 (f := .noat "Table" "known") rfl)), g_Table, (He.meth_ok (cd.fact 30 (f := .meth "Table" "least") rfl)), (He.meth_ok (cd.fact 31 (f := .meth "Table" "sought") rfl)), (He.meth_ok (cd.fact 32 (f := .meth "Table" "by_cut") rfl)), (He.meth_ok (cd.fact 33 (f := .meth "Table" "best_cut") rfl)), f_list, f_sum, f_range, f_len⟩
  have mT : Mk K (He.ga K "Table") (He.fAd K ("Table", some "__init__")) := (He.mkr_ok (cd.fact 34 (f := .mkr "Table") rfl))
  have tp : TxP K mg (He.ga K "Planner") (He.fAd K ("Planner", some "way")) (He.fAd K ("Planner", some "whole_way")) :=
    ⟨(He.cls_ok (cd.fact 35 (f := .cls "Planner") rfl)), (He.noat_ok (cd.fact 36 (f := .noat "Planner" "table") rfl)), (He.noat_ok (cd.fact 37 (f := .noat "Planner" "n") rfl)), g_Planner, (He.meth_ok (cd.fact 38 (f := .meth "Planner" "way") rfl)), (He.meth_ok (cd.fact 39 (f := .meth "Planner" "whole_way") rfl))⟩
  have mP : Mk K (He.ga K "Planner") (He.fAd K ("Planner", some "__init__")) := (He.mkr_ok (cd.fact 40 (f := .mkr "Planner") rfl))
  have fns : TabFns K mg (He.ga K "Table") (He.fAd K ("Table", some "least")) (He.fAd K ("Table", some "sought")) (He.fAd K ("Table", some "by_cut")) (He.fAd K ("Table", some "best_cut")) (He.ga K "farthest") d1 d2 d3 d4 d7 :=
    ⟨tx, F1, F2, F3, F4, b1, b2, b3, b4, b7, F7.kp, g_farthest⟩
  refine ⟨d23, [He.cT K ("_law_far", none)], spLaw K (He.cT K ("_law_far", none)).2, fun p hp => ?_, fun p hp => ?_, fun p hp => ?_, fun s v => bl s [v] rfl, fun H a ns _ _ hH hS => ⟨a, ns, rfl, hS, hH _ (List.mem_singleton.mpr rfl), fun _ => rfl⟩, fun base _ _ TB => ?_⟩
  · rw [List.mem_singleton.mp hp]
    exact c.empty _ (List.mem_singleton.mpr rfl)
  · rw [List.mem_singleton.mp hp]
    exact c.out _ (List.mem_singleton.mpr rfl)
  · rw [List.mem_singleton.mp hp]
    exact PySem.W.codeHd_of_K X (c.hd _ (List.mem_singleton.mpr rfl))
  have TB0 : TabB base mg c0 (He.cT K ("_law_far", none)).2 := by
    have := TB _ (List.mem_singleton.mpr rfl)
    rw [show (He.cT K ("_law_far", none)).1 = c0 from ec0] at this
    exact this
  have oti : FnOk PySem.Challenge.rw_nolitter_k38_whole_none_is_cheaper.prog w K mg base CX0 1 (He.fAd K ("Table", some "__init__")) d0 ["self", "costs"] (spTInit PySem.Challenge.rw_nolitter_k38_whole_none_is_cheaper.prog w K (He.ga K "Table")) := ok_tinit F0 tx
  have ore : FnOk PySem.Challenge.rw_nolitter_k38_whole_none_is_cheaper.prog w K mg base CX0 1 (He.fAd K ("reach", none)) d5 ["s"] (spNat1 fun s => 2 ^ s - 1) := ok_reach F5
  have oar : FnOk PySem.Challenge.rw_nolitter_k38_whole_none_is_cheaper.prog w K mg base CX0 2 (He.fAd K ("alone_reach", none)) d6 ["s"] (spNat1 fun s => (2 ^ s - 1) - (2 ^ s - 1) / 2) := ok_alone_reach F6 ore b5 F5.kp g_reach
  have ofa : FnOk PySem.Challenge.rw_nolitter_k38_whole_none_is_cheaper.prog w K mg base CX0 3 (He.fAd K ("farthest", none)) d7 ["s", "is_alone"] (spFar) := ok_farthest F7 ore b5 F5.kp g_reach oar b6 F6.kp g_alone_reach
  obtain ⟨ole, obe⟩ := all_table (P := PySem.Challenge.rw_nolitter_k38_whole_none_is_cheaper.prog) (w := w) (base := base) fns ofa 7
  have oal : FnOk PySem.Challenge.rw_nolitter_k38_whole_none_is_cheaper.prog w K mg base CX0 32 (He.fAd K ("alone", none)) d8 ["costs", "s"] (spValue K true) := ok_alone F8 tx mT oti b0 ole b1 (by decide)
  have ord : FnOk PySem.Challenge.rw_nolitter_k38_whole_none_is_cheaper.prog w K mg base CX0 32 (He.fAd K ("reached", none)) d9 ["costs", "s"] (spValue K false) := ok_reached F9 tx mT oti b0 ole b1 (by decide)
  have otm : FnOk PySem.Challenge.rw_nolitter_k38_whole_none_is_cheaper.prog w K mg base CX0 1 (He.fAd K ("turned_move", none)) d10 ["move"] (spTurnM) := ok_turnm F10
  have otp : FnOk PySem.Challenge.rw_nolitter_k38_whole_none_is_cheaper.prog w K mg base CX0 2 (He.fAd K ("turned_plan", none)) d11 ["plan"] (spTurnP) := ok_turnp F11 otm b10 F10.kp g_turned_move f_reversed
  have opi : FnOk PySem.Challenge.rw_nolitter_k38_whole_none_is_cheaper.prog w K mg base CX0 3 (He.fAd K ("Planner", some "__init__")) d12 ["self", "costs"] (spPInit PySem.Challenge.rw_nolitter_k38_whole_none_is_cheaper.prog w K (He.ga K "Table") (He.ga K "Planner")) := ok_pinit F12 tx tp mT oti b0
  have owa : FnOk PySem.Challenge.rw_nolitter_k38_whole_none_is_cheaper.prog w K mg base CX0 38 (He.fAd K ("Planner", some "way")) d13 psT (spWay PySem.Challenge.rw_nolitter_k38_whole_none_is_cheaper.prog w (He.ga K "Table") (He.ga K "Planner") 7) := all_way F13 tx tp obe b4 b13 otp b11 F11.kp g_turned_plan (by decide) 7
  have oww : FnOk PySem.Challenge.rw_nolitter_k38_whole_none_is_cheaper.prog w K mg base CX0 39 (He.fAd K ("Planner", some "whole_way")) d14 ["self", "s", "is_alone"] (spWhole PySem.Challenge.rw_nolitter_k38_whole_none_is_cheaper.prog w (He.ga K "Table") (He.ga K "Planner")) := ok_whole F14 tx tp (ole.mono (by decide)) b1 owa b13
  have olp : FnOk PySem.Challenge.rw_nolitter_k38_whole_none_is_cheaper.prog w K mg base CX0 40 (He.fAd K ("left_plan", none)) d15 ["costs", "s"] (spPlan K true fun x => x) := ok_left F15 tp mP opi b12 oww b14 (by decide)
  have osp : FnOk PySem.Challenge.rw_nolitter_k38_whole_none_is_cheaper.prog w K mg base CX0 40 (He.fAd K ("shown_plan", none)) d16 ["costs", "s"] (spPlan K false fun x => 2 * x) := ok_shown F16 tp mP opi b12 oww b14 (by decide) otp b11 F11.kp g_turned_plan
  have odr : FnOk PySem.Challenge.rw_nolitter_k38_whole_none_is_cheaper.prog w K mg base CX0 1 (He.fAd K ("_law_draw", none)) d17 ["_law_state", "_law_many_here"] (spDraw K) := ok_draw F17 f_len f_abs f_divmod
  have oco : FnOk PySem.Challenge.rw_nolitter_k38_whole_none_is_cheaper.prog w K mg base CX0 2 (He.fAd K ("_law_costs", none)) d18 ["_law_state", "_law_n"] (spCosts K) := ok_costs F18 odr b17 F17.kp g__law_draw f_range
  have oma : FnOk PySem.Challenge.rw_nolitter_k38_whole_none_is_cheaper.prog w K mg base CX0 1 (He.fAd K ("_law_many", none)) d19 ["_law_marks"] (spMany) := ok_many F19 f_sum f_range
  have one : FnOk PySem.Challenge.rw_nolitter_k38_whole_none_is_cheaper.prog w K mg base CX0 2 (He.fAd K ("_law_next", none)) d20 ["_law_marks", "_law_n", "_law_s"] (spNext) := ok_next F20 oma b19 F19.kp g__law_many f_range
  have ofr : FnOk PySem.Challenge.rw_nolitter_k38_whole_none_is_cheaper.prog w K mg base CX0 3 (He.fAd K ("_law_far", none)) d21 ["_law_prices", "_law_s"] (spFar2 K (He.cT K ("_law_far", none)).2) := ok_far F21 ecode TB0 one b20 F20.kp g__law_next f_min f_len
  have oct : FnOk PySem.Challenge.rw_nolitter_k38_whole_none_is_cheaper.prog w K mg base CX0 1 (He.fAd K ("_law_cost", none)) d22 ["_law_plan", "_law_prices"] (spCost K) := ok_cost F22 f_sum
  exact ok_law F23 (k := 40) (by decide) ⟨odr, b17, F17.kp, g__law_draw⟩ ⟨oco, b18, F18.kp, g__law_costs⟩ ⟨ofr, b21, F21.kp, g__law_far⟩ ⟨oal.mono (by decide), b8, F8.kp, g_alone⟩ ⟨oct, b22, F22.kp, g__law_cost⟩ ⟨olp, b15, F15.kp, g_left_plan⟩ ⟨ord.mono (by decide), b9, F9.kp, g_reached⟩ ⟨osp, b16, F16.kp, g_shown_plan⟩ f_int f_min
end K38
open PySem PySem.W PySem.Calls PyProof.Rows
theorem PySem.Challenge.cw_nolitter_k38_whole_none_is_cheaper_holds : PySem.Challenge.rw_nolitter_k38_whole_none_is_cheaper.Holds := by
  w_on; o_law
  refine HandSHeadRun.head_any (r := OpenLaw.row PySem.Challenge.rw_nolitter_k38_whole_none_is_cheaper) (q := view (OpenLaw.row PySem.Challenge.rw_nolitter_k38_whole_none_is_cheaper).prog [21]) (H := K38.hkL) (ob := K38.obL) (M := 2000) (loose := K38.looseL) (d := HandSHeadRun.topDef (OpenLaw.row PySem.Challenge.rw_nolitter_k38_whole_none_is_cheaper).prog 21) (kwd := []) K38.obL_eq
    (by kernel_rfl) (fun s => by kernel_rfl) K38.run (by kernel_rfl) (by kernel_rfl) (by kernel_rfl) (by rfl) (by first | assumption | decide +kernel) (by decide +kernel) ⟨rfl, rfl, rfl, rfl, rfl, by decide +kernel⟩ ?hw ?hc
  case hw => w_witness2
  case hc =>
    refine LamX.walk_ofTsE (l := PySem.Challenge.rw_nolitter_k38_whole_none_is_cheaper) (n := 63) (k := 41) (x := "_law_script") (CX := fun _ => L2.CX0) rfl (by decide) (by kernel_rfl) ⟨rfl, by decide, by decide⟩ ?F (fun _ _ _ _ _ z => z)
    intro w mg fa h Y G hmg0
    obtain ⟨K, KX, c⟩ := Y
    have hmg : mg ("law" : PySem.Str) = some (.ref fa) := by
      have e : (HandSHeadRun.topDef (OpenLaw.row PySem.Challenge.rw_nolitter_k38_whole_none_is_cheaper).prog 21).name = ("law" : PySem.Str) := by kernel_rfl
      rw [← e]
      exact hmg0
    exact ⟨K, KX, K38.facts KX G hmg c⟩
