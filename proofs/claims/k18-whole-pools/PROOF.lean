import PyProof.Rows.All
import Wide.All
import OpenK.AllK
import Wide.FinOn
import PyProof.EqAt
import PyProof.EqKinds
import PyProof.TupleCall
import HandS.ForMost
import HandS.ForExc
import HandS.TryMany
import HandS.ExcInit
import HandS.ExcField
import HandS.IsInst
import HandS.Defaults
import HandS.Small
import HandS.SortInts
import HandS.NamedTupSort
import HandS.Walk
import HandS.EndBits
import HandS.Codes
import PySem.Challenge.RW_anyworths_k18_whole_pools_from_count_to
set_option Elab.async false
set_option linter.all false
set_option maxRecDepth 100000
set_option maxHeartbeats 4000000
/-! The plain law of k18: coins put one after another, each at most the room of the sum so far, serve when sorted. -/
namespace K18
/-- the greatest coin that may come to a total -/
def room (t m : Int) : Int := t / (m - 1) + 1
/-- a total after k further greatest coins -/
def rise (m : Int) (t : Int) : Nat → Int
  | 0 => t
  | k + 1 => rise m t k + room (rise m t k) m
theorem room_pos {t m : Int} (ht : 0 ≤ t) (hm : 2 ≤ m) : 1 ≤ room t m := by
  have h : 0 ≤ t / (m - 1) := Int.ediv_nonneg ht (by omega)
  show 1 ≤ t / (m - 1) + 1
  omega
theorem room_mono {s t m : Int} (h : s ≤ t) (hm : 2 ≤ m) : room s m ≤ room t m := by
  have e : s / (m - 1) ≤ t / (m - 1) := Int.ediv_le_ediv (by omega) h
  show s / (m - 1) + 1 ≤ t / (m - 1) + 1
  omega
theorem room_le {t m : Int} (ht : 0 ≤ t) (hm : 2 ≤ m) : room t m ≤ t + 1 := by
  have e : t / (m - 1) ≤ t := Int.ediv_le_self _ ht
  show t / (m - 1) + 1 ≤ t + 1
  omega
theorem rise_front (m : Int) : ∀ (k : Nat) (t : Int), rise m t (k + 1) = rise m (t + room t m) k
  | 0, _ => rfl
  | k + 1, t => by
    have e := rise_front m k t
    show rise m t (k + 1) + room (rise m t (k + 1)) m = rise m (t + room t m) k + room (rise m (t + room t m) k) m
    rw [e]
theorem rise_ge {m t : Int} (ht : 0 ≤ t) (hm : 2 ≤ m) : ∀ k : Nat, t + k ≤ rise m t k
  | 0 => by show t + ((0 : Nat) : Int) ≤ t; omega
  | k + 1 => by
    have e := rise_ge ht hm k
    have p : 1 ≤ room (rise m t k) m := room_pos (by omega) hm
    show t + ((k + 1 : Nat) : Int) ≤ rise m t k + room (rise m t k) m
    omega
theorem rise_pow {m : Int} (hm : 2 ≤ m) : ∀ k : Nat, rise m 0 k + 1 ≤ 2 ^ k
  | 0 => by show (0 : Int) + 1 ≤ 1; omega
  | k + 1 => by
    have e := rise_pow hm k
    have g := rise_ge (t := 0) (Int.le_refl 0) hm k
    have p : room (rise m 0 k) m ≤ rise m 0 k + 1 := room_le (by omega) hm
    have w : (2 : Int) ^ (k + 1) = 2 ^ k * 2 := Int.pow_succ 2 k
    show rise m 0 k + room (rise m 0 k) m + 1 ≤ 2 ^ (k + 1)
    omega
theorem rise_small {m : Int} (hm : 2 ≤ m) {k : Nat} (hk : k ≤ 12) : rise m 0 k ≤ 4095 := by
  have e := rise_pow hm k
  have w : (2 : Int) ^ k ≤ 4096 := by
    have q : (2 : Nat) ^ k ≤ 2 ^ 12 := Nat.pow_le_pow_right (by decide) hk
    have c : ((2 ^ k : Nat) : Int) = (2 : Int) ^ k := by simp
    have d : (2 : Nat) ^ 12 = 4096 := by decide
    omega
  omega
/-- coins in the order in which they come: each from 1 on and at most the room of the sum ahead of it -/
def Ins (m : Int) : Int → List Int → Prop
  | _, [] => True
  | s, c :: r => 1 ≤ c ∧ c ≤ room s m ∧ Ins m (s + c) r
theorem ins_snoc {m : Int} : ∀ {l : List Int} {s c : Int}, Ins m s l → 1 ≤ c → c ≤ room (s + l.sum) m → Ins m s (l ++ [c])
  | [], s, c, _, h1, h2 => by
    have e : s + ([] : List Int).sum = s := by simp
    rw [e] at h2
    exact ⟨h1, h2, trivial⟩
  | d :: r, s, c, h, h1, h2 => by
    obtain ⟨a, b, i⟩ := h
    refine ⟨a, b, ins_snoc i h1 ?_⟩
    have e : s + (d :: r).sum = s + d + r.sum := by rw [List.sum_cons]; omega
    rw [e] at h2
    exact h2
theorem ins_pos {m : Int} : ∀ {l : List Int} {s : Int}, Ins m s l → ∀ v ∈ l, 1 ≤ v
  | [], _, _, _, hv => by cases hv
  | d :: r, s, h, v, hv => by
    obtain ⟨a, _, i⟩ := h
    rcases List.mem_cons.mp hv with e | e
    · rw [e]; exact a
    · exact ins_pos i v e
/-- the sum of the coins below v -/
def below (v : Int) : List Int → Int
  | [] => 0
  | c :: r => (if c < v then c else 0) + below v r
theorem below_nn {v : Int} : ∀ {l : List Int}, (∀ c ∈ l, 1 ≤ c) → 0 ≤ below v l
  | [], _ => Int.le_refl 0
  | c :: r, h => by
    have e := below_nn (v := v) (l := r) fun d hd => h d (List.mem_cons_of_mem _ hd)
    have p := h c List.mem_cons_self
    show 0 ≤ (if c < v then c else 0) + below v r
    split <;> omega
theorem below_le {v : Int} : ∀ {l : List Int}, (∀ c ∈ l, 1 ≤ c) → below v l ≤ l.sum
  | [], _ => by show (0 : Int) ≤ ([] : List Int).sum; simp
  | c :: r, h => by
    have e := below_le (v := v) (l := r) fun d hd => h d (List.mem_cons_of_mem _ hd)
    have p := h c List.mem_cons_self
    show (if c < v then c else 0) + below v r ≤ (c :: r).sum
    rw [List.sum_cons]
    split <;> omega
theorem below_perm {v : Int} {l k : List Int} (h : l.Perm k) : below v l = below v k := by
  induction h with
  | nil => rfl
  | cons x _ ih =>
    show (if x < v then x else 0) + below v _ = (if x < v then x else 0) + below v _
    rw [ih]
  | swap x y l =>
    show (if y < v then y else 0) + ((if x < v then x else 0) + below v l) = (if x < v then x else 0) + ((if y < v then y else 0) + below v l)
    omega
  | trans _ _ a b => exact a.trans b
theorem below_app (v : Int) : ∀ a b : List Int, below v (a ++ b) = below v a + below v b
  | [], b => by show below v b = 0 + below v b; omega
  | c :: r, b => by
    have e := below_app v r b
    show (if c < v then c else 0) + below v (r ++ b) = (if c < v then c else 0) + below v r + below v b
    omega
theorem below_none {v : Int} : ∀ {l : List Int}, (∀ c ∈ l, v ≤ c) → below v l = 0
  | [], _ => rfl
  | c :: r, h => by
    have e := below_none (v := v) (l := r) fun d hd => h d (List.mem_cons_of_mem _ hd)
    have p := h c List.mem_cons_self
    show (if c < v then c else 0) + below v r = 0
    rw [if_neg (by omega), e]
    omega
theorem sum_perm {l k : List Int} (h : l.Perm k) : l.sum = k.sum := by
  induction h with
  | nil => rfl
  | cons x _ ih => rw [List.sum_cons, List.sum_cons, ih]
  | swap x y l => rw [List.sum_cons, List.sum_cons, List.sum_cons, List.sum_cons]; omega
  | trans _ _ a b => exact a.trans b
theorem sum_snoc : ∀ (l : List Int) (c : Int), (l ++ [c]).sum = l.sum + c
  | [], c => by simp
  | d :: r, c => by
    have e := sum_snoc r c
    show (d :: (r ++ [c])).sum = (d :: r).sum + c
    rw [List.sum_cons, List.sum_cons, e]
    omega
theorem ins_below {m : Int} (hm : 2 ≤ m) : ∀ {l : List Int} {s : Int}, Ins m s l → ∀ v ∈ l, v ≤ room (s + below v l) m
  | [], _, _, _, hv => by cases hv
  | c :: r, s, h, v, hv => by
    have pos := ins_pos h
    obtain ⟨a, b, i⟩ := h
    by_cases q : c < v
    · have hr : v ∈ r := by
        rcases List.mem_cons.mp hv with e | e
        · omega
        · exact e
      have ih := ins_below hm i v hr
      have e : s + below v (c :: r) = s + c + below v r := by
        show s + ((if c < v then c else 0) + below v r) = s + c + below v r
        rw [if_pos q]
        omega
      rw [e]
      exact ih
    · have n : 0 ≤ below v (c :: r) := below_nn pos
      have e : room s m ≤ room (s + below v (c :: r)) m := room_mono (by omega) hm
      omega
/-- what serves when sorted -/
theorem serves_at {m : Int} (hm : 2 ≤ m) (hm5 : m ≤ 5) {l ys p r : List Int} {c : Int} (h : Ins m 0 l) (hp : ys.Perm l) (hs : ys.Pairwise (· ≤ ·)) (e : ys = p ++ c :: r) : c ≤ (p.sum + c + m - 1) / m := by
  have hc : c ∈ l := hp.mem_iff.mp (by rw [e]; simp)
  have posY : ∀ v ∈ ys, 1 ≤ v := fun v hv => ins_pos h v (hp.mem_iff.mp hv)
  have posP : ∀ v ∈ p, 1 ≤ v := fun v hv => posY v (by rw [e]; simp [hv])
  have q := ins_below hm h c hc
  have b1 : below c l = below c ys := (below_perm hp).symm
  have b2 : below c ys = below c p + (0 + below c r) := by
    rw [e, below_app]
    show below c p + ((if c < c then c else 0) + below c r) = below c p + (0 + below c r)
    rw [if_neg (by omega)]
  rw [e] at hs
  have hr : ∀ d ∈ r, c ≤ d := fun d hd => by
    have t := (List.pairwise_append.mp hs).2.1
    exact (List.pairwise_cons.mp t).1 d hd
  have b3 : below c r = 0 := below_none hr
  have b4 : below c p ≤ p.sum := below_le posP
  have b5 : 0 ≤ below c p := below_nn posP
  have z : (0 : Int) + below c l ≤ p.sum := by omega
  have k : c ≤ room p.sum m := Int.le_trans q (room_mono z hm)
  have k2 : c ≤ p.sum / (m - 1) + 1 := k
  have ps : 0 ≤ p.sum := by omega
  have cases : m = 2 ∨ m = 3 ∨ m = 4 ∨ m = 5 := by omega
  rcases cases with e | e | e | e <;> (subst e; omega)
/-- one turn of the filling loop -/
theorem fill_turn {m total r c : Int} {n : Nat} (hm : 2 ≤ m) (hr : 0 ≤ r) (h1 : r + (n + 1 : Nat) ≤ total) (h2 : total ≤ rise m r (n + 1)) (hc : c = if total - r - n < room r m then total - r - n else room r m) :
    1 ≤ c ∧ c ≤ room r m ∧ r + c + n ≤ total ∧ total ≤ rise m (r + c) n := by
  have p := room_pos (t := r) (m := m) hr hm
  by_cases q : total - r - n < room r m
  · rw [if_pos q] at hc
    have g := rise_ge (t := r + c) (m := m) (by omega) hm n
    exact ⟨by omega, by omega, by omega, by omega⟩
  · rw [if_neg q] at hc
    rw [rise_front] at h2
    rw [← hc] at h2 q p
    exact ⟨by omega, by omega, by omega, h2⟩
end K18
/-! Rules that the layer lacks for k18: sum of a tuple, a bare own exception, a try of several clauses some of which name the exception, == and != by an own __eq__. -/
namespace L2.R18
open PySem PySem.Spec PyProof.Rows
section
variable {X : Cx}
/-- sum(t), t a tuple of ints -/
theorem call_sumT (hc : X.calm = true) : CallR X (.builtin "sum") (fun vs H Q => ∃ (a : Addr) (ns : List Int), vs = [V.ref a] ∧ SqT X.K H a (ns.map V.int) ∧ Q (.int ns.sum) H) := by
  rintro pins s σ H vs us Q I r ⟨a, ns, rfl, ht, q⟩
  obtain ⟨its, rv, pl, zl⟩ := I.tuple ht
  cases Vals.ref1 r
  obtain ⟨ps, ep⟩ := rv.ints.allInts.items
  have en : numsOf (intItems ps).toList = ns := (congrArg (fun z : Array Value => numsOf z.toList) ep).symm.trans rv.ints.numsOf
  rw [nums_intItems] at en
  have it : s.heap.IsTuple a (intItems ps) := ep ▸ pl
  refine PySem.W.ktm_sumG (I.ok.hd hc) it fun h' tk t' hk => ⟨.int ns.sum, H, I.kept hk, ⟨t', ?_⟩, q⟩
  have es : preSum (numAt ps) ps.size = ns.sum := (preSum_eq ..).trans ((congrArg List.sum (List.take_of_length_le (by simp))).trans (congrArg List.sum en))
  exact congrArg (fun z => Value.int z t') es
/-- X(), X an own exception class without own __init__ -/
theorem pmk_bare {C : Addr} {bmB : List Value} {B newId initId : String} {x : Str} {p pos : Pos} (F : ExcBaseFacts B newId initId bmB) (ex : PySem.W.excIn X.K C bmB newId = true) (gC : X.mg x = some (.ref C))
    (kC : PySem.W.keepIn X.K (.ref C) = true) (r : Raises X (.ref C)) (hg : Gl X x) (hdb : (x == ("__debug__" : Str)) = false := by decide) : PMk X (.Call (.Name x p) [] [] pos) (fun _ H Q => Q (.ref C) none H) := fun pins s σ H Q I h => by
  obtain ⟨b1, b2, b3, b4, b5, b6, b7, b8, b9, c1, c2, c3, c4, c5, c6, c7, c8, hC, hN, hni, T⟩ := exc_obj I.kIn ex
  exact wpAny_Call_Name_kw (ld_glob I hg gC (PySem.W.callWith_K0 I.kIn kC (wpAny_call_exc_subT F T hC hN hni (fun h' e hm => mk_of I hm r h (I.hok.gone hm.new)) (Nat.zero_le _))) hdb)
end
/-! ### a try of several clauses -/
abbrev Suite := Addr → Value → Option Addr → TS
/-- a clause's suite: with a name (its slot), the name is bound ahead and goes behind -/
def clauseT (n : Option Nat) (ts : Suite) (a : Addr) (cls : Value) (d : Option Addr) : TS := fun D σ H =>
  match n with
  | none => ts a cls d D σ H
  | some i => ts a cls d { nx := fun σ1 H1 => D.nx (σ1.set i none) H1, rt := D.rt, bk := fun σ1 H1 => D.bk (σ1.set i none) H1, ct := fun σ1 H1 => D.ct (σ1.set i none) H1 } (σ.set i (some (.ref a))) H
structure Cl where
  cls : Value
  slot : Option Nat
  ts : Suite
/-- what the clauses wish of an exception that leaves the body -/
def wMix (K : PySem.W.Frag) (Wout : WX) (D : Ends) : List Cl → WX
  | [] => Wout
  | c :: r => fun cls d σ H => ∃ b, PySem.W.exmOne K cls c.cls = some b ∧ (b = true → ∀ a, H a = none → clauseT c.slot c.ts a cls d D σ H) ∧ (b = false → wMix K Wout D r cls d σ H)
/-- the suite's walk -/
def SuiteOk (X : Cx) (suite : List Stmt) (ts : Suite) : Prop := ∀ (a : Addr) (oe : Obj) (cls : Value) (d : Option Addr) (pn : List (Addr × Obj)), Zc cls d oe → (∃ vs, oe.data = .fields vs) → PSs (X.suite a ((a, oe) :: pn)) suite (ts a cls d)
inductive Clauses (X : Cx) : List ExceptHandler → List Cl → Prop
  | nil : Clauses X [] []
  | bare {x : Str} {c : Value} {ts : Suite} {b : Stmt} {suite : List Stmt} {np pp : Pos} {hs : List ExceptHandler} {l : List Cl} (hc : Names X x c) (hsu : SuiteOk X (b :: suite) ts) (r : Clauses X hs l) :
      Clauses X (.ExceptHandler (some (.Name x np)) none (b :: suite) pp :: hs) (⟨c, none, ts⟩ :: l)
  | named {x n : Str} {c : Value} {i : Nat} {ts : Suite} {b : Stmt} {suite : List Stmt} {np pp : Pos} {hs : List ExceptHandler} {l : List Cl} (hc : Names X x c) (hi : X.N[i]? = some n) (hl : X.env.kindOf n = some .local) (hsu : SuiteOk X (b :: suite) ts) (r : Clauses X hs l) :
      Clauses X (.ExceptHandler (some (.Name x np)) (some n) (b :: suite) pp :: hs) (⟨c, some i, ts⟩ :: l)
section
variable {X : Cx} {pins : List (Addr × Obj)} {σ : St} {H : Hp} {s : Shared}
/-- the clause's name is read -/
theorem clause_name {x : Str} {c : Value} {np : Pos} {a : Addr} {oe : Obj} (hc : Names X x c) (S : Inv (X.suite a ((a, oe) :: (X.pn ++ pins))) [] σ H s) {Q E : Value → Shared → Prop} (q : Q c s) :
    wpAny (model X.prog X.w) (X.A.mark (some (.ref a))) (eval (.Name x np) X.env) Q E s := by
  rcases hc with ⟨g, db, m | ⟨m, v, nn⟩⟩
  · exact ld_glob (X := X.suite a ((a, oe) :: (X.pn ++ pins))) S g m q db
  · exact ld_blt (X := X.suite a ((a, oe) :: (X.pn ++ pins))) S g m v q nn db
/-- behind a suite: back in the frame -/
theorem suite_back {D : Ends} {a : Addr} {oe : Obj} {f : Flow} (ok : X.Ok) (z : SP (X.suite a ((a, oe) :: (X.pn ++ pins))) [] D f s) : SP X pins D f s := by
  cases f with
  | ret u => obtain ⟨v1, t1, K1, J, r, q⟩ := z; exact ⟨v1, t1, K1, J.unsuite ok, r, q⟩
  | next => obtain ⟨t1, K1, J, q⟩ := z; exact ⟨t1, K1, J.unsuite ok, q⟩
  | brk => obtain ⟨t1, K1, J, q⟩ := z; exact ⟨t1, K1, J.unsuite ok, q⟩
  | cont => obtain ⟨t1, K1, J, q⟩ := z; exact ⟨t1, K1, J.unsuite ok, q⟩
/-- the same where the clause's name goes -/
theorem named_back {D : Ends} {i : Nat} {n : Str} {f : Flow} {p : Pos} (hN : X.N.Nodup) (hi : X.N[i]? = some n) (hl : X.env.kindOf n = some .local)
    (z : SP X pins { nx := fun σ1 H1 => D.nx (σ1.set i none) H1, rt := D.rt, bk := fun σ1 H1 => D.bk (σ1.set i none) H1, ct := fun σ1 H1 => D.ct (σ1.set i none) H1 } f s) :
    wpAny (model X.prog X.w) X.A (do bindName X.env n .none; unbindBehindTheSuite X.env n p) (fun _ s1 => SP X pins D f s1) X.xe s := by
  cases f with
  | ret u => obtain ⟨v1, t1, K1, J, r, q⟩ := z; exact gone_ok J hN hi hl fun s1 J1 => ⟨v1, _, K1, J1, r, q⟩
  | next => obtain ⟨t1, K1, J, q⟩ := z; exact gone_ok J hN hi hl fun s1 J1 => ⟨_, K1, J1, q⟩
  | brk => obtain ⟨t1, K1, J, q⟩ := z; exact gone_ok J hN hi hl fun s1 J1 => ⟨_, K1, J1, q⟩
  | cont => obtain ⟨t1, K1, J, q⟩ := z; exact gone_ok J hN hi hl fun s1 J1 => ⟨_, K1, J1, q⟩
/-- the clauses over a caught exception at a -/
theorem clauses_run {D : Ends} {Wout : WX} {a : Addr} {B : Heap} {cls : Value} {d : Option Addr} {hF : Heap} {s1 : Shared} (ok : X.Ok) (hf : X.env.frame = some X.env.locals) (hs : X.stack = X.env :: X.outer) (hN : X.N.Nodup) (tk : Takes X Wout)
    (J : Inv X pins σ H s) (nb : ∀ b o, s.heap.get? b = some o → b ∉ frs X.stack → B.get? b = some o) (na : H a = none) (os : s1.os = s.os) (ag : AllBare s1.gens) (up : s.heap.UpToSlots hF)
    (fl : HandSPX.FlyingZ B (X.env :: X.outer) a (Zc cls d) hF) {hds : List ExceptHandler} {l : List Cl} (hk : Clauses X hds l) (w : wMix X.K Wout D l cls d σ H) :
    wpAny (model X.prog X.w) X.A (handleBy (.ref a) X.env hds) (SP X pins D) X.xe { s1 with heap := hF } := by
  obtain ⟨oc, vc, gc, zc, dc⟩ := fl.there
  have apart : a ∉ frs (X.env :: X.outer) := fun hm => by
    obtain ⟨-, o2, g2, nofields⟩ := fl.2.2.1.mem hm
    exact nofields _ ((Option.some.inj (g2.symm.trans gc)) ▸ dc)
  have aL : a ≠ X.env.locals := fun z => apart (List.mem_filterMap.mpr ⟨X.env, .head _, hf.trans (congrArg some z.symm)⟩)
  have aF : a ∉ X.fs := fun hm => let ⟨e, he, q⟩ := List.mem_filterMap.mp hm; apart (List.mem_filterMap.mpr ⟨e, .tail _ he, q⟩)
  have land : ∀ {g : Heap} {og : Obj} {vg : Array Value}, B.StaysIn g → s.heap.UpToSlots g → g.get? a = some og → og.data = .fields vg → Inv (X.suite a ((a, og) :: (X.pn ++ pins))) [] σ H { s1 with heap := g } :=
    fun st u e dd => (J.landed (s' := { s1 with heap := _ }) nb st u os ag).suite e dd na aL aF
  induction hk with
  | nil =>
    refine wpAny_handleBy_nil ?_
    obtain ⟨k1, k2, k3, o5, v5, T5, t5, r5, g5, z5, d5, f5, r6⟩ := id fl
    have nn : ¬ (Value.ref T5 == Value.none) = true := by simp
    have last : wpAny (model X.prog X.w) X.A (setFlight (.ref a) X.env.frame) (fun _ s4 => wpAny (model X.prog X.w) X.A (throw (.ref a) : Sem Flow) (SP X pins D) X.xe s4) X.xe { s1 with heap := hF } :=
      hf ▸ HandSPX.setFlight_upZ fl fun h4 q4 u4 => wpAny_throw (tk _ _ ⟨a, B, s, pins, σ, H, cls, d, rfl, J, nb, up.trans u4, .inr (.inr (hs ▸ q4)), na, os, ag, w⟩)
    unfold PySem.passOn
    refine wpAny_bind (wpAny_field g5 d5 f5 ?_)
    rw [if_neg nn]
    first
      | exact wpAny_bind last
      | exact wpAny_bind (wpAny_pure (wpAny_bind last))
  | @bare x c ts b suite np pp hds2 l2 hc hsu r ih =>
    obtain ⟨k, hk1, yes, no⟩ := w
    have S := land fl.1 up gc dc
    have look := PySem.W.exm_one (M := model X.prog X.w) S.kIn (fun A Q E s2 k2 q2 => wpAny_typeOf_ref (k2 _ _ gc) (zc.1.symm ▸ q2)) hk1
    refine wpAny_handleBy_cons (codeAny_handlers_test (clause_name hc S (look.here ?_))) (fun q => nomatch q)
    cases k with
    | false => exact ih (no rfl)
    | true =>
      refine codeAny_handlers_suite (HandSPX.lands_againZ fl fun h4 fl4 u4 => ?_)
      obtain ⟨o4, v4, g4, z4, d4⟩ := fl4.there
      exact wpAny_mono ((hsu a o4 cls d (X.pn ++ pins) z4 ⟨v4, d4⟩).run [] _ _ H _ (land fl4.1 (up.trans u4) g4 d4) (yes rfl a na)) (fun f s6 z => suite_back ok z) fun _ _ z => z.elim
  | @named x n c i ts b suite np pp hds2 l2 hc hi hl hsu r ih =>
    obtain ⟨k, hk1, yes, no⟩ := w
    have S := land fl.1 up gc dc
    have look := PySem.W.exm_one (M := model X.prog X.w) S.kIn (fun A Q E s2 k2 q2 => wpAny_typeOf_ref (k2 _ _ gc) (zc.1.symm ▸ q2)) hk1
    refine wpAny_handleBy_cons (codeAny_handlers_test (clause_name hc S (look.here ?_))) (fun q => nomatch q)
    cases k with
    | false => exact ih (no rfl)
    | true =>
      refine codeAny_handlers_suite_as (HandSPX.lands_againZ fl fun h4 fl4 u4 => ?_)
      obtain ⟨o4, v4, g4, z4, d4⟩ := fl4.there
      refine store_ok (X := X.suite a ((a, o4) :: (X.pn ++ pins))) (v := .ref a) (land fl4.1 (up.trans u4) g4 d4) hN hi (.inl hl) rfl (fun s5 S5 => ?_) (.inr hl)
      exact wpAny_mono ((hsu a o4 cls d (X.pn ++ pins) z4 ⟨v4, d4⟩).run [] s5 _ H _ S5 (yes rfl a na)) (fun f s6 z => named_back hN hi hl (suite_back ok z)) fun _ _ z => z.elim
/-- try: body except A as e: .. except B: .. -/
theorem ps_try_mix {body : List Stmt} {hd : ExceptHandler} {hds : List ExceptHandler} {l : List Cl} {pos : Pos} {tb : WX → TS} {Wout : WX} (hs : X.stack = X.env :: X.outer) (hf : X.env.frame = some X.env.locals) (hN : X.N.Nodup) (tk : Takes X Wout)
    (hb : ∀ (W : WX) (pn : List (Addr × Obj)) (xe : Value → Shared → Prop), Takes (X.tr pn xe) W → PassesOwn (model X.prog X.w) X.A X.env xe → PSs (X.tr pn xe) body (tb W))
    (hh : Clauses X (hd :: hds) l) : PS X (.Try body (hd :: hds) [] [] pos) (fun D σ H => tb (wMix X.K Wout D l) D σ H) := by
  constructor
  intro pins s σ H D I h
  have ok := I.ok
  have frm : X.A.frames = some (X.env :: X.outer) := ok.frames.trans (congrArg some hs)
  refine wpAny_Try_except (wpAny_mono ((hb (wMix X.K Wout D l) (X.pn ++ pins) _ (fun u s1 xx => ?_) PassesOwn.looking).run [] s σ H D (I.toTry _) h) (fun f s1 z => ?_) fun _ _ z => z)
  · obtain ⟨a, B, sI, pins1, σ1, H1, cls, d, rfl, J1, nb, up, sky, na, os, ag, w⟩ := xx
    refine Sky.land Zc.steady frm hf (hs ▸ sky) fun h3 fl3 u3 => ?_
    exact clauses_run ok hf hs hN tk (J1.ofTry ok) nb na os ag (up.trans u3) fl3 hh w
  · cases f with
    | ret u => obtain ⟨v1, t1, K1, J, r, q⟩ := z; exact ⟨v1, t1, K1, J.ofTry ok, r, q⟩
    | next => obtain ⟨t1, K1, J, q⟩ := z; exact wpAny_execs_nil ⟨t1, K1, J.ofTry ok, q⟩
    | brk => obtain ⟨t1, K1, J, q⟩ := z; exact ⟨t1, K1, J.ofTry ok, q⟩
    | cont => obtain ⟨t1, K1, J, q⟩ := z; exact ⟨t1, K1, J.ofTry ok, q⟩
end
end L2.R18
/-! == and != of an instance whose class has an own __eq__ and no own __ne__, whatever stands at the right. -/
namespace L2.R18
open PySem PySem.Spec PyProof.Rows
section
open PySem.W
variable {prog : Program} {w : World} {A : Around} {E : Value → Shared → Prop} {s : Shared} {K : Frag} {x C f : Addr} {ox : Obj} {od : Option Obj} {b tb : Value}
/-- object.__ne__ asks the class's __eq__ and turns its answer round -/
theorem obj_ne (hu : A.units < cLine) (X : K.In s.heap) (I : InstAt s.heap x ox C od) (he : findIn K (.ref C) "__eq__" = some (some (.ref f))) (hf : isFn K (.ref f) = true) {Q : Fin → Shared → Prop}
    (h : wpAny (model prog w) A (call (.ref f) [.ref x, b]) (fun v s1 => ∃ k, v = .bool k ∧ Q (.done (.ret (.bool (!k)))) s1) E s) : wpAny (model prog w) A (Builtin.«object.__ne__» ⟨[.ref x, b], []⟩) Q E s := by
  unfold Builtin.«object.__ne__»
  repeat (first
    | with_reducible refine wpAny_cRoomFor hu ?_
    | (refine wpAny_bind (m := callSpecialIfBound? (.ref x) (Str.ofString "__eq__") [b]) (ifBound_K X I he hf (wpAny_mono h (fun v s1 z => ?_) fun _ _ e => e)); obtain ⟨k, rfl, q⟩ := z)
    | exact q
    | exact wpAny_pure q
    | with_reducible refine wpAny_bind (m := truthy (.bool _)) (wpAny_truthy_bool ?_)
    | wp_step)
/-- what x != b needs of the class: __ne__ is object's -/
theorem try_ne (hu : A.units + 1 < cLine) (X : K.In s.heap) (I : InstAt s.heap x ox C od) (hn : findIn K (.ref C) "__ne__" = some (some (.builtin "object.__ne__"))) (he : findIn K (.ref C) "__eq__" = some (some (.ref f))) (hf : isFn K (.ref f) = true)
    (hm : mroIn K C (.type "object") = some true) {Q : Option Value → Shared → Prop}
    (h : wpAny (model prog w) A.in1 (call (.ref f) [.ref x, b]) (fun v s1 => ∃ k, v = .bool k ∧ Q (some (.bool (!k))) s1) E s) : wpAny (model prog w) A (tryCompare (.ref x) "__ne__" b) Q E s := by
  have sp : Looks (model prog w) s.heap (specialOf (.ref x) "__ne__") (some (.builtin "object.__ne__")) := I.type.andThen (looks_findIn X hn)
  have isO : Looks (model prog w) s.heap (isInstance (.ref x) (.type "object")) true := I.type.andThen (looks_mroIn X hm)
  unfold tryCompare
  refine wpAny_bind (NtL.csib sp (PySem.F.cmp_object.ne.bind _) (wpAny_call (codeAny_call_builtin PySem.F.cmp_object.ne.plain PySem.F.cmpEntry_ne
    (@check_slot (model prog w) _ _ _ "object.__ne__" "object" "__ne__" (.ref x) [b] [] _ PySem.F.cmpKind_ne PySem.F.cmpSplit_ne isO (PySem.F.cmpArgs_ne _ _) (obj_ne (A := A.in1) hu X I he hf (wpAny_mono h (fun v s1 z => ?_) fun _ _ e => e))))))
  obtain ⟨k, rfl, q⟩ := z
  first
    | exact ⟨k, rfl, wpAny_pure q⟩
    | exact ⟨k, rfl, wpAny_pure (wpAny_pure q)⟩
    | exact ⟨k, rfl, q⟩
theorem rich_ne (hu : A.units + 1 < cLine) (X : K.In s.heap) (I : InstAt s.heap x ox C od) (hb : Looks (model prog w) s.heap (typeOf b) tb) (hn0 : notFirst K C tb = true) (hn : findIn K (.ref C) "__ne__" = some (some (.builtin "object.__ne__")))
    (he : findIn K (.ref C) "__eq__" = some (some (.ref f))) (hf : isFn K (.ref f) = true) (hm : mroIn K C (.type "object") = some true) {Q : Value → Shared → Prop}
    (h : wpAny (model prog w) A.in1 (call (.ref f) [.ref x, b]) (fun v s1 => ∃ k, v = .bool k ∧ Q (.bool (!k)) s1) E s) : wpAny (model prog w) A (richCompare .NotEq (.ref x) b) Q E s := by
  have one : wpAny (model prog w) A (tryCompare (.ref x) "__ne__" b) (fun r s1 => ∃ k, r = some (.bool (!k)) ∧ Q (.bool (!k)) s1) E s :=
    try_ne hu X I hn he hf hm (wpAny_mono h (fun v s1 ⟨k, e, q⟩ => ⟨k, e, k, rfl, q⟩) fun _ _ e => e)
  unfold richCompare
  simp only [oneThing_ref]
  refine wpAny_holding (wpAny_bind (wpAny_cRoomFor (Nat.lt_of_succ_lt hu) ?_))
  rw [cmpInfo_NotEq]
  dsimp only
  refine wpAny_bind (I.type.here (wpAny_bind (hb.here ?_)))
  by_cases e : tb = .ref C
  · subst e
    have q0 : (Value.ref C != Value.ref C) = false := by simp
    rw [q0]
    simp only [Bool.false_eq_true, if_false]
    refine wpAny_bind (wpAny_pure ?_)
    simp only [Bool.false_eq_true, if_false]
    refine wpAny_bind (wpAny_mono one (fun r s1 z => ?_) fun _ _ z => z)
    obtain ⟨k, rfl, q⟩ := z
    exact wpAny_pure q
  · have sf : subIn K tb (.ref C) = some false := (Bool.or_eq_true_iff.mp hn0).elim (fun z => absurd (beq_iff_eq.mp z) e) beq_iff_eq.mp
    have q1 : (Value.ref C != tb) = true := by simp [Ne.symm e]
    rw [q1]
    simp only [if_true]
    refine wpAny_bind ((looks_subIn X sf).here ?_)
    simp only [Bool.false_eq_true, if_false]
    refine wpAny_bind (wpAny_mono one (fun r s1 z => ?_) fun _ _ z => z)
    obtain ⟨k, rfl, q⟩ := z
    exact wpAny_pure q
end
section
variable {X : Cx} {CX : CXT} {n : Nat} {f C : Addr} {fd : FuncData} {ps : List Str} {sp : Sp} {E : XK}
/-- what may stand at the right -/
def Right (C : Addr) (H : Hp) (y : V) : Prop :=
  (∃ b dx fs, y = .ref b ∧ H b = some (.ins C dx fs)) ∨ y = .non ∨ ∃ t xs, y = .ref t ∧ H t = some (.tup xs)
/-- what the class must have -/
structure EqC (K : PySem.W.Frag) (C f : Addr) : Prop where
  eq : PySem.W.findIn K (.ref C) "__eq__" = some (some (.ref f))
  fn : PySem.W.isFn K (.ref f) = true
  ne : PySem.W.findIn K (.ref C) "__ne__" = some (some (.builtin "object.__ne__"))
  ob : PySem.W.mroIn K C (.type "object") = some true
  sN : PySem.W.subIn K (.type "NoneType") (.ref C) = some false
  sT : PySem.W.subIn K (.type "tuple") (.ref C) = some false
theorem Right.type {pins : List (Addr × Obj)} {σ : St} {H : Hp} {s : Shared} {y : V} {u : Value} (z : Right C H y) (T : EqC X.K C f) (I : Inv X pins σ H s) (r : RelV y u) :
    ∃ tb, PySem.W.Looks (model X.prog X.w) s.heap (typeOf u) tb ∧ PySem.W.notFirst X.K C tb = true := by
  have sf := T.sN
  have st := T.sT
  rcases z with ⟨b, dx, fs, rfl, hb⟩ | rfl | ⟨t, xs, rfl, ht⟩
  · cases r
    obtain ⟨mB, J, _⟩ := ins_get I.hok hb
    obtain ⟨o1, J1, _⟩ := J.look
    exact ⟨.ref C, J1.type, by simp [PySem.W.notFirst]⟩
  · cases r
    exact ⟨.type "NoneType", .now, by unfold PySem.W.notFirst; rw [sf]; simp⟩
  · cases r
    obtain ⟨_, its, _, o, h1, h2, _⟩ := (show ObjOk X.prog X.w H s.heap t (.tup xs) from I.hok t _ ht)
    refine ⟨.type "tuple", ?_, by unfold PySem.W.notFirst; rw [st]; simp⟩
    have e := (PySem.W.Looks.ld (M := model X.prog X.w) (part := none) h1)
    exact h2 ▸ e.andThen .now
/-- a def is called where the around is another, the frames the same -/
theorem run_at {A : Around} {pins : List (Addr × Obj)} {σ : St} {H : Hp} {s : Shared} {Q : VK} {us : List Value} {vs : List V} (F : FnOk X.prog X.w X.K X.mg X.base CX n f fd ps sp) (hr : Room n A) (fr : A.frames = X.A.frames) (hb : Binds X.K fd ps [])
    (hx : Passes CX X E) (I : Inv X pins σ H s) (r : Vals vs us) (h : sp vs H Q E) : wpAny (model X.prog X.w) A (call (.ref f) us) (EP X pins σ Q) X.xe s := by
  have e1 := I.env0
  have e0 : Env0 X.prog X.w X.K X.mg X.base A X.stack s H := { e1 with frames := fr.trans e1.frames }
  have hl : (us ++ []).length = ps.length := by rw [List.append_nil, ← r.length]; exact F.len _ _ _ _ h
  have bd := hb s us I.kIn hl
  rw [List.append_nil] at bd
  refine wpAny_call (codeAny_mono (F.run A X.stack s H ⟨us, []⟩ us vs Q E hr e0 bd r h) fun z s1 hq => ?_)
  match z, hq with
  | .error e, hq => exact hx pins σ H s e s1 I hq
  | .ok (.ret u), hq => exact I.after hq
  | .ok .next, hq => exact hq.elim
  | .ok .brk, hq => exact hq.elim
  | .ok .cont, hq => exact hq.elim
/-- x == y -/
theorem op_eqO (T : EqC X.K C f) (F : FnOk X.prog X.w X.K X.mg X.base CX n f fd ps sp) (hr : Room n X.A) (hb : Binds X.K fd ps []) (hx : Passes CX X E) :
    OpR X (compareOp .Eq) (fun x y H Q => ∃ a dx fs, x = .ref a ∧ H a = some (.ins C dx fs) ∧ Right C H y ∧ sp [x, y] H (fun v H1 => ∃ k, v = .bl k ∧ Q (.bl k) H1) E) := by
  rintro pins s σ H x y v u Q I rx ry ⟨a, dx, fs, rfl, ha, R, h⟩
  obtain ⟨tb, lt, nf⟩ := R.type T I ry
  cases rx
  obtain ⟨mA, J, _⟩ := ins_get I.hok ha
  obtain ⟨o1, J1, _⟩ := J.look
  obtain ⟨m, hF⟩ := I.fr
  show wpAny (model X.prog X.w) X.A (richCompare .Eq (.ref a) u) (EP X pins σ Q) X.xe s
  refine PySem.W.cmp_K (op := .Eq) hr.units0 hF I.ok.mod.kin J1 lt nf T.eq T.fn (thn (run_at (vs := [.ref a, y]) (us := [.ref a, u]) F hr rfl hb hx I (.cons rfl (.cons ry .nil)) h) fun v s1 z => ?_)
  obtain ⟨v0, H1, I1, r1, k, rfl, q⟩ := z
  cases r1
  exact ⟨.bl k, H1, I1, rfl, q⟩
/-- x != y -/
theorem op_neO (T : EqC X.K C f) (F : FnOk X.prog X.w X.K X.mg X.base CX n f fd ps sp) (hr : Room (n + 1) X.A) (hb : Binds X.K fd ps []) (hx : Passes CX X E) :
    OpR X (compareOp .NotEq) (fun x y H Q => ∃ a dx fs, x = .ref a ∧ H a = some (.ins C dx fs) ∧ Right C H y ∧ sp [x, y] H (fun v H1 => ∃ k, v = .bl k ∧ Q (.bl (!k)) H1) E) := by
  rintro pins s σ H x y v u Q I rx ry ⟨a, dx, fs, rfl, ha, R, h⟩
  obtain ⟨tb, lt, nf⟩ := R.type T I ry
  cases rx
  obtain ⟨mA, J, _⟩ := ins_get I.hok ha
  obtain ⟨o1, J1, _⟩ := J.look
  show wpAny (model X.prog X.w) X.A (richCompare .NotEq (.ref a) u) (EP X pins σ Q) X.xe s
  refine rich_ne (hu_of hr) I.kIn J1 lt nf T.ne T.eq T.fn T.ob (thn (run_at (vs := [.ref a, y]) (us := [.ref a, u]) F hr.in1 rfl hb hx I (.cons rfl (.cons ry .nil)) h) fun v s1 z => ?_)
  obtain ⟨v0, H1, I1, r1, k, rfl, q⟩ := z
  cases r1
  exact ⟨k, rfl, .bl (!k), H1, I1, rfl, q⟩
end
end L2.R18
/-! k18: the text by places, what the top has written, the promises. -/
namespace L2.K
open PySem PySem.Spec PyProof.Rows
/-! ### the text -/
def topS (i : Nat) : Stmt := PySem.Challenge.pw_anyworths_k18_whole_pools_from_count_to.main.body.getD i (.Pass ⟨0, 0, 0, 0⟩)
abbrev sCI : Stmt := inClass (topS 3) 0
abbrev sTI : Stmt := inClass (topS 4) 0
abbrev sIsW : Stmt := topS 7
abbrev sChP : Stmt := topS 8
abbrev sNI : Stmt := inClass (topS 10) 0
abbrev sNE : Stmt := inClass (topS 10) 1
abbrev sWh : Stmt := topS 11
abbrev sCkC : Stmt := topS 12
abbrev sCkT : Stmt := topS 13
abbrev sNR : Stmt := topS 14
abbrev sRT : Stmt := topS 15
abbrev sPF : Stmt := topS 16
abbrev sMix : Stmt := topS 18
abbrev sHand : Stmt := topS 19
abbrev sDraw : Stmt := topS 20
abbrev sPick : Stmt := topS 21
abbrev sLW : Stmt := topS 22
abbrev sCoins : Stmt := topS 23
abbrev sUp : Stmt := topS 24
abbrev sServ : Stmt := topS 25
abbrev sNext : Stmt := topS 26
abbrev sGreat : Stmt := topS 27
abbrev sOddP : Stmt := topS 28
abbrev sOddN : Stmt := topS 29
abbrev sTold : Stmt := topS 30
abbrev sRight : Stmt := topS 31
abbrev sEqR : Stmt := topS 32
abbrev sRefR : Stmt := topS 33
abbrev sLaw : Stmt := topS 34
/-! ### facts of the top -/
/-- a def of the top, by its name -/
structure Df (K : PySem.W.Frag) (mg : Str → Option Value) (nm : Str) (st : Stmt) (ps : List Str) (f : Addr) (fd : FuncData) : Prop where
  F : Fun K nm nm st f fd
  g : mg nm = some (.ref f)
  b : Binds K fd ps []
/-- the names of the built-ins are free -/
structure Blt (mg : Str → Option Value) : Prop where
  isi : mg "isinstance" = none
  int : mg "int" = none
  bool : mg "bool" = none
  rng : mg "range" = none
  min : mg "min" = none
  max : mg "max" = none
  tup : mg "tuple" = none
  srt : mg "sorted" = none
  lst : mg "list" = none
  enu : mg "enumerate" = none
  abs : mg "abs" = none
  len : mg "len" = none
  sum : mg "sum" = none
theorem bIsi : bootBuiltins "isinstance" = some (.builtin "isinstance") := by decide +kernel
theorem bInt : bootBuiltins "int" = some (.type "int") := by decide +kernel
theorem bBool : bootBuiltins "bool" = some (.type "bool") := by decide +kernel
theorem bTup : bootBuiltins "tuple" = some (.type "tuple") := by decide +kernel
theorem bList : bootBuiltins "list" = some (.type "list") := by decide +kernel
theorem bMin : bootBuiltins "min" = some (.builtin "min") := by decide +kernel
theorem bMax : bootBuiltins "max" = some (.builtin "max") := by decide +kernel
theorem bSum : bootBuiltins "sum" = some (.builtin "sum") := by decide +kernel
theorem bSrt : bootBuiltins "sorted" = some (.builtin "sorted") := by decide +kernel
theorem bAbs : bootBuiltins "abs" = some (.builtin "abs") := by decide +kernel
theorem bLen : bootBuiltins "len" = some (.builtin "len") := by decide +kernel
/-! ### kinds of values -/
/-- no int: None, a bool, a text, a tuple -/
def NotInt (x : V) (H : Hp) : Prop := x = .non ∨ (∃ b, x = .bl b) ∨ (∃ z, x = .str z) ∨ ∃ t xs, x = .ref t ∧ H t = some (.tup xs)
def Fit (lo hi : Int) (x : V) : Prop := ∃ i, x = .int i ∧ lo ≤ i ∧ i ≤ hi
def Odd (lo hi : Int) (x : V) (H : Hp) : Prop := NotInt x H ∨ ∃ i, x = .int i ∧ ¬ (lo ≤ i ∧ i ≤ hi)
theorem NotInt.mono {x : V} {H H' : Hp} (z : NotInt x H) (h : ∀ t xs, H t = some (.tup xs) → H' t = some (.tup xs)) : NotInt x H' := by
  rcases z with z | z | z | ⟨t, xs, e, q⟩
  · exact .inl z
  · exact .inr (.inl z)
  · exact .inr (.inr (.inl z))
  · exact .inr (.inr (.inr ⟨t, xs, e, h t xs q⟩))
theorem Odd.mono {lo hi : Int} {x : V} {H H' : Hp} (z : Odd lo hi x H) (h : ∀ t xs, H t = some (.tup xs) → H' t = some (.tup xs)) : Odd lo hi x H' := z.elim (fun z => .inl (z.mono h)) .inr
theorem same_upd {H : Hp} {p : Addr} {o : HO} (h : H p = none) : Same H (upd H p o) := fun b x e => by
  rw [upd_ne (ne_of_none e h)]
  exact e
/-- all but what stands at h is as it was -/
def Keep (h : Addr) (H H' : Hp) : Prop := ∀ b o, b ≠ h → H b = some o → H' b = some o
theorem Same.keep {h : Addr} {H H' : Hp} (s : Same H H') : Keep h H H' := fun b o _ e => s b o e
theorem Keep.refl (h : Addr) (H : Hp) : Keep h H H := fun _ _ _ e => e
theorem Keep.trans {h : Addr} {H H1 H2 : Hp} (a : Keep h H H1) (b : Keep h H1 H2) : Keep h H H2 := fun c o n e => b c o n (a c o n e)
/-- the law's hand at h: its cells, its places -/
def HandL (H : Hp) (h l : Addr) : Prop := ∃ (cells : List Int) (p q r : Int), H h = some (.lst [.ref l, .int p, .int q, .int r]) ∧ H l = some (.lst (cells.map V.int)) ∧ l ≠ h ∧ 0 ≤ p ∧ 0 ≤ q ∧ cells.length ≤ 63 ∧ ∀ c ∈ cells, 0 ≤ c
/-- .. wherever its cells stand -/
def HandAt (H : Hp) (h : Addr) : Prop := ∃ l : Addr, HandL H h l
/-- a list that is neither is changed -/
theorem HandL.other {H : Hp} {h l b : Addr} {o : HO} (z : HandL H h l) (n1 : h ≠ b) (n2 : l ≠ b) : HandL (upd H b o) h l := by
  obtain ⟨cells, p, q, r, h1, h2, r3⟩ := z
  exact ⟨cells, p, q, r, (upd_ne n1).trans h1, (upd_ne n2).trans h2, r3⟩
theorem HandL.same {H H' : Hp} {h l : Addr} (z : HandL H h l) (s : Same H H') : HandL H' h l := by
  obtain ⟨cells, p, q, r, h1, h2, r3⟩ := z
  exact ⟨cells, p, q, r, s _ _ h1, s _ _ h2, r3⟩
theorem HandAt.same {H H' : Hp} {h : Addr} (z : HandAt H h) (s : Same H H') : HandAt H' h := by
  obtain ⟨l, cells, p, q, r, h1, h2, r3⟩ := z
  exact ⟨l, cells, p, q, r, s _ _ h1, s _ _ h2, r3⟩
theorem HandAt.there {H : Hp} {h : Addr} (z : HandAt H h) : ∃ xs, H h = some (.lst xs) := let ⟨_, _, _, _, _, h1, _⟩ := z; ⟨_, h1⟩
theorem tup_ne {H : Hp} {h t : Addr} {xs : List V} (z : HandAt H h) (e : H t = some (.tup xs)) : t ≠ h := by
  obtain ⟨ys, q⟩ := z.there
  exact ne_of e q (by intro z; cases z)
theorem odd_keep {lo hi : Int} {x : V} {H H' : Hp} {h : Addr} (o : Odd lo hi x H) (z : HandAt H h) (k : Keep h H H') : Odd lo hi x H' := o.mono fun t xs e => k t _ (tup_ne z e) e
/-! ### the promises -/
def spWh : Sp := fun vs H Q _ => ∃ (x : V) (lo hi : Int), vs = [x, .int lo, .int hi] ∧ ((Fit lo hi x ∧ Q (.bl true) H) ∨ (Odd lo hi x H ∧ Q (.bl false) H))
def spChP (cP : Addr) : Sp := fun vs H Q E => ∃ (x : V) (lo : Int), vs = [x, .int lo] ∧ ((Fit lo 5 x ∧ Q x H) ∨ (Odd lo 5 x H ∧ E (.ref cP) none H))
def xf (most : V) : List (Str × V) := [("most", most)]
def spXI (C : Addr) : Sp := fun vs H Q _ => ∃ (a : Addr) (v : V), vs = [.ref a, v] ∧ H a = some (exo a C none) ∧ ∀ dx, H dx = none → dx ≠ a → Q .non (upd (upd H dx (exd dx (xf v))) a (exo a C (some dx)))
def spCk (C : Addr) : Sp := fun vs H Q E => ∃ (x : V) (most : Int), vs = [x, .int most] ∧
  ((Fit 0 most x ∧ Q x H) ∨ (Odd 0 most x H ∧ ∀ d H', Same H H' → H d = none → H' d = some (.xd (xf (.int most))) → E (.ref C) (some d) H'))
/-- a NoPool's attributes -/
def nf (lo hi : Int) : List (Str × V) := putF "high" (.int hi) (putF "low" (.int lo) [])
def spNI (C : Addr) : Sp := fun vs H Q _ => ∃ (p dx : Addr) (lo hi : Int), vs = [.ref p, .int lo, .int hi] ∧ H p = some (.ins C dx []) ∧ ∀ H', (∀ b o, H b = some o → b ≠ p → H' b = some o) → H' p = some (.ins C dx (nf lo hi)) → Q .non H'
def spNE (C : Addr) : Sp := fun vs H Q _ => ∃ (a dx : Addr) (lo hi : Int) (y : V), vs = [.ref a, y] ∧ H a = some (.ins C dx (nf lo hi)) ∧
  ((∃ b dy lo' hi', y = .ref b ∧ H b = some (.ins C dy (nf lo' hi')) ∧ Q (.bl (decide (lo = lo' ∧ hi = hi'))) H) ∨ (NotInt y H ∧ Q (.bl false) H))
def spRoom : Sp := fun vs H Q _ => ∃ t m : Int, vs = [.int t, .int m] ∧ 2 ≤ m ∧ m ≤ 5 ∧ Q (.int (K18.room t m)) H
def spRT : Sp := fun vs H Q _ => ∃ (t m : Int) (n : Nat), vs = [.int t, .int n, .int m] ∧ n ≤ 12 ∧ 2 ≤ m ∧ m ≤ 5 ∧ Q (.int (K18.rise m t n)) H
/-- a pool's coins that serve -/
def Good (m : Int) (n : Nat) (S : Int) (ys : List Int) : Prop := ∃ l, K18.Ins m 0 l ∧ ys.Perm l ∧ ys.Pairwise (· ≤ ·) ∧ l.sum = S ∧ l.length = n
def spPF (cP cC cT cN : Addr) : Sp := fun vs H Q E => ∃ c t p : V, vs = [c, t, p] ∧
  ((∃ (n : Nat) (S m : Int), c = .int n ∧ t = .int S ∧ p = .int m ∧ n ≤ 12 ∧ 0 ≤ S ∧ S ≤ 1000000000 ∧ 2 ≤ m ∧ m ≤ 5 ∧
      ((n : Int) ≤ S ∧ S ≤ K18.rise m 0 n → ∀ ys a H', Same H H' → H a = none → H' a = some (.tup (ys.map V.int)) → Good m n S ys → Q (.ref a) H') ∧
      (¬ ((n : Int) ≤ S ∧ S ≤ K18.rise m 0 n) → ∀ a dx H', Same H H' → H a = none → H' a = some (.ins cN dx (nf n (K18.rise m 0 n))) → Q (.ref a) H')) ∨
   (Odd 0 12 c H ∧ ∀ d H', Same H H' → H d = none → H' d = some (.xd (xf (.int 12))) → E (.ref cC) (some d) H') ∨
   (Fit 0 12 c ∧ Odd 0 1000000000 t H ∧ ∀ d H', Same H H' → H d = none → H' d = some (.xd (xf (.int 1000000000))) → E (.ref cT) (some d) H') ∨
   (Fit 0 12 c ∧ Fit 0 1000000000 t ∧ Odd 2 5 p H ∧ ∀ H', Same H H' → E (.ref cP) none H'))
def spMix : Sp := fun vs H Q _ => ∃ a b : Int, vs = [.int a, .int b] ∧ ∀ v, Q (.int v) H
def spHand (K : PySem.W.Frag) : Sp := fun vs H Q _ => ∃ (a : Addr) (ns : List Int), vs = [.ref a] ∧ SqL K H a (ns.map V.int) ∧ ns.length ≤ 63 ∧ ∀ h H', Same H H' → H h = none → HandAt H' h → Q (.ref h) H'
def spDraw : Sp := fun vs H Q _ => ∃ (h : Addr) (many : Int), vs = [.ref h, .int many] ∧ HandAt H h ∧ 0 < many ∧ many < 1073741824 ∧
  ∀ v H', 0 ≤ v → v < many → HandAt H' h → Keep h H H' → Q (.int v) H'
/-- the same, told of the very list of its cells -/
def spDrawL : Sp := fun vs H Q _ => ∃ (h : Addr) (many : Int) (l : Addr), vs = [.ref h, .int many] ∧ HandL H h l ∧ 0 < many ∧ many < 1073741824 ∧
  ∀ v H', 0 ≤ v → v < many → HandL H' h l → Keep h H H' → Q (.int v) H'
def spPick (K : PySem.W.Frag) : Sp := fun vs H Q _ => ∃ (h t : Addr) (xs : List V), vs = [.ref h, .ref t] ∧ HandAt H h ∧ H t = some (.lst xs) ∧ t ≠ h ∧ 0 < xs.length ∧ xs.length ≤ 1000 ∧
  ∀ (i : Nat) v H', xs[i]? = some v → HandAt H' h → Keep h H H' → Q v H'
def spLW : Sp := fun vs H Q _ => ∃ i : Int, vs = [.int i] ∧ Q (.bl true) H
def spCoins : Sp := fun vs H Q _ => ∃ (a : Addr) (ys : List Int), vs = [.ref a] ∧ H a = some (.tup (ys.map V.int)) ∧ ys.length ≤ 12 ∧ (∀ y ∈ ys, 1 ≤ y) ∧ ys.Pairwise (· ≤ ·) ∧ ∀ H', Same H H' → Q (.bl true) H'
def spUp : Sp := fun vs H Q _ => ∃ t m : Int, vs = [.int t, .int m] ∧ 2 ≤ m ∧ m ≤ 5 ∧ Q (.int ((t + m - 1) / m)) H
def spServ : Sp := fun vs H Q _ => ∃ (a : Addr) (ys : List Int) (m : Int) (n : Nat) (S : Int), vs = [.ref a, .int m] ∧ H a = some (.tup (ys.map V.int)) ∧ 2 ≤ m ∧ m ≤ 5 ∧ Good m n S ys ∧ ∀ H', Same H H' → Q (.bl true) H'
def spGreat : Sp := fun vs H Q _ => ∃ (n : Nat) (m : Int), vs = [.int n, .int m] ∧ n ≤ 12 ∧ 2 ≤ m ∧ m ≤ 5 ∧ Q (.int (K18.rise m 0 n)) H
def spOddP : Sp := fun vs H Q _ => ∃ h : Addr, vs = [.ref h] ∧ HandAt H h ∧ ∀ v H', Odd 2 5 v H' → HandAt H' h → Keep h H H' → Q v H'
def spOddN : Sp := fun vs H Q _ => ∃ (h : Addr) (most : Int), vs = [.ref h, .int most] ∧ HandAt H h ∧ 1 ≤ most ∧ most ≤ 1000000000 ∧ ∀ v H', Odd 0 most v H' → HandAt H' h → Keep h H H' → Q v H'
/-- the pair that a refusal is told as -/
def Told (H H' : Hp) (a : Addr) (w : Str) (k : Int) : Prop := Same H H' ∧ H a = none ∧ H' a = some (.tup [.str w, .int k])
def spTold : Sp := fun vs H Q _ => ∃ c t p : V, vs = [c, t, p] ∧
  ((Odd 0 12 c H ∧ ∀ a H', Told H H' a "count" 12 → Q (.ref a) H') ∨
   (Fit 0 12 c ∧ Odd 0 1000000000 t H ∧ ∀ a H', Told H H' a "total" 1000000000 → Q (.ref a) H') ∨
   (Fit 0 12 c ∧ Fit 0 1000000000 t ∧ Odd 2 5 p H ∧ ∀ a H', Told H H' a "people" 0 → Q (.ref a) H'))
def spRight : Sp := fun vs H Q _ => ∃ (n : Nat) (S m : Int), vs = [.int n, .int S, .int m] ∧ n ≤ 12 ∧ 0 ≤ S ∧ S ≤ 1000000000 ∧ 2 ≤ m ∧ m ≤ 5 ∧ ∀ H', Same H H' → Q (.bl true) H'
def spEqR : Sp := fun vs H Q _ => ∃ h : Addr, vs = [.ref h] ∧ HandAt H h ∧ ∀ H', HandAt H' h → Q (.bl true) H'
def spRefR : Sp := fun vs H Q _ => ∃ (h : Addr) (m : Int), vs = [.ref h, .int m] ∧ HandAt H h ∧ 2 ≤ m ∧ m ≤ 5 ∧ ∀ H', Q (.bl true) H'
def spLaw (K : PySem.W.Frag) : Sp := fun vs H Q _ => ∃ (a : Addr) (ns : List Int), vs = [.ref a] ∧ SqL K H a (ns.map V.int) ∧ ns.length ≤ 63 ∧ ∀ H', Q (.bl true) H'
/-! ### names by slot -/
abbrev nIsW : List Str := ["thing", "low", "high"]
end L2.K
namespace L2.K
open PySem PySem.Spec PyProof.Rows
/-- an own exception class with an own __init__ of one field -/
structure ExC (K : PySem.W.Frag) (mg : Str → Option Value) (nm : Str) (C fI : Addr) (fdI : FuncData) : Prop where
  ox : OexC K C
  g : mg nm = some (.ref C)
  ini : PySem.W.findIn K (.ref C) "__init__" = some (some (.ref fI))
  fn : PySem.W.typeIn K (.ref fI) = some (.type "function")
  b : Binds K fdI ["self", "most"] []
section
variable {P : Program} {w : World} {K : PySem.W.Frag} {mg : Str → Option Value} {base : Heap}
/-! ### whole_within, is_whole -/
theorem scWh : FnScope ["thing", "low", "high"] ["thing", "low", "high"] (defScope sWh) := ⟨rfl, rfl, rfl, by decide +kernel, rfl, by decide +kernel, by decide +kernel⟩
theorem scIsW : FnScope ["thing", "low", "high"] ["thing", "low", "high"] (defScope sIsW) := ⟨rfl, rfl, rfl, by decide +kernel, rfl, by decide +kernel, by decide +kernel⟩
/-- the type that isinstance(x, int) sees -/
theorem notInt_ty {x : V} {H : Hp} (z : NotInt x H) : (∃ t, TyX K H x t ∧ PySem.W.kitOne K t (.type "int") = some false) ∨ ∃ b, x = .bl b := by
  rcases z with rfl | ⟨b, rfl⟩ | ⟨y, rfl⟩ | ⟨t, xs, rfl, e⟩
  · exact .inl ⟨_, .base .non, kit_ty (by decide +kernel)⟩
  · exact .inr ⟨b, rfl⟩
  · exact .inl ⟨_, .base (.str y), kit_ty (by decide +kernel)⟩
  · exact .inl ⟨_, .base (.tup e), kit_ty (by decide +kernel)⟩
theorem ok_wh {f : Addr} {fd : FuncData} (B : Blt mg) (F : Fun K "whole_within" "whole_within" sWh f fd) : FnOk P w K mg base CX0 1 f fd ["thing", "low", "high"] spWh := by
  refine F.ok scWh (fun vs H Q E h => ?_) (fun cdv A outer s H vs Q E hr h => ?_)
  · obtain ⟨x, lo, hi, rfl, _⟩ := h
    rfl
  · obtain ⟨x, lo, hi, rfl, h⟩ := h
    have h2 : (∃ i, x = .int i ∧ Q (.bl (decide (lo ≤ i ∧ i ≤ hi))) H) ∨ (NotInt x H ∧ Q (.bl false) H) := by
      rcases h with ⟨⟨i, e, h1, h2⟩, q⟩ | ⟨z | ⟨i, e, n⟩, q⟩
      · exact .inl ⟨i, e, by rw [decide_eq_true ⟨h1, h2⟩]; exact q⟩
      · exact .inr ⟨z, q⟩
      · exact .inl ⟨i, e, by rw [decide_eq_false n]; exact q⟩
    refine ⟨_, pss_one (ps_ret (pe_and (pe_callB call_isi (by rfl) B.isi bIsi (pa_cons (pv 0) (pa_cons (pe_bltn (v := .ty "int") (by rfl) B.int bInt rfl) pa_nil)))
      (pe_and (pe_not (pe_callB call_isi (by rfl) B.isi bIsi (pa_cons (pv 0) (pa_cons (pe_bltn (v := .ty "bool") (by rfl) B.bool bBool rfl) pa_nil))))
        (pe_one (pe_chain op_le op_le (pv 1) (pv 0) (pv 2)))))), ?_⟩
    rcases h2 with ⟨i, rfl, q⟩ | ⟨z, q⟩
    · refine ⟨_, rfl, _, _, _, _, true, rfl, .ty "int", .base (.int i), kit_ty (by decide +kernel), true, rfl, iteT ?_⟩
      refine ⟨_, rfl, _, _, _, _, false, rfl, .ty "bool", .base (.int i), kit_ty (by decide +kernel), false, rfl, true, rfl, iteT ?_⟩
      refine ⟨_, rfl, _, rfl, lo, i, rfl, rfl, _, rfl, ?_⟩
      by_cases c : lo ≤ i
      · rw [decide_eq_true c]
        refine iteT ⟨_, rfl, i, hi, rfl, rfl, ?_⟩
        have e : decide (lo ≤ i ∧ i ≤ hi) = decide (i ≤ hi) := by simp [c]
        rw [e] at q
        exact q
      · rw [decide_eq_false c]
        have e : decide (lo ≤ i ∧ i ≤ hi) = false := decide_eq_false fun z => c z.1
        rw [e] at q
        exact iteF q
    · rcases notInt_ty (K := K) z with ⟨t, ty, k⟩ | ⟨b, rfl⟩
      · refine ⟨_, rfl, _, _, _, _, false, rfl, .ty "int", ty, k, false, rfl, iteF ?_⟩
        exact q
      · refine ⟨_, rfl, _, _, _, _, true, rfl, .ty "int", .base (.bl b), kit_ty (by decide +kernel), true, rfl, iteT ?_⟩
        refine ⟨_, rfl, _, _, _, _, true, rfl, .ty "bool", .base (.bl b), kit_ty (by decide +kernel), true, rfl, false, rfl, iteF ?_⟩
        exact q
theorem ok_isw {f : Addr} {fd : FuncData} (B : Blt mg) (F : Fun K "is_whole" "is_whole" sIsW f fd) : FnOk P w K mg base CX0 1 f fd ["thing", "low", "high"] spWh := by
  refine F.ok scIsW (fun vs H Q E h => ?_) (fun cdv A outer s H vs Q E hr h => ?_)
  · obtain ⟨x, lo, hi, rfl, _⟩ := h
    rfl
  · obtain ⟨x, lo, hi, rfl, h⟩ := h
    have h2 : (∃ i, x = .int i ∧ Q (.bl (decide (lo ≤ i ∧ i ≤ hi))) H) ∨ (NotInt x H ∧ Q (.bl false) H) := by
      rcases h with ⟨⟨i, e, h1, h2⟩, q⟩ | ⟨z | ⟨i, e, n⟩, q⟩
      · exact .inl ⟨i, e, by rw [decide_eq_true ⟨h1, h2⟩]; exact q⟩
      · exact .inr ⟨z, q⟩
      · exact .inl ⟨i, e, by rw [decide_eq_false n]; exact q⟩
    refine ⟨_, pss_one (ps_ret (pe_and (pe_callB call_isi (by rfl) B.isi bIsi (pa_cons (pv 0) (pa_cons (pe_bltn (v := .ty "int") (by rfl) B.int bInt rfl) pa_nil)))
      (pe_and (pe_not (pe_callB call_isi (by rfl) B.isi bIsi (pa_cons (pv 0) (pa_cons (pe_bltn (v := .ty "bool") (by rfl) B.bool bBool rfl) pa_nil))))
        (pe_one (pe_chain op_le op_le (pv 1) (pv 0) (pv 2)))))), ?_⟩
    rcases h2 with ⟨i, rfl, q⟩ | ⟨z, q⟩
    · refine ⟨_, rfl, _, _, _, _, true, rfl, .ty "int", .base (.int i), kit_ty (by decide +kernel), true, rfl, iteT ?_⟩
      refine ⟨_, rfl, _, _, _, _, false, rfl, .ty "bool", .base (.int i), kit_ty (by decide +kernel), false, rfl, true, rfl, iteT ?_⟩
      refine ⟨_, rfl, _, rfl, lo, i, rfl, rfl, _, rfl, ?_⟩
      by_cases c : lo ≤ i
      · rw [decide_eq_true c]
        refine iteT ⟨_, rfl, i, hi, rfl, rfl, ?_⟩
        have e : decide (lo ≤ i ∧ i ≤ hi) = decide (i ≤ hi) := by simp [c]
        rw [e] at q
        exact q
      · rw [decide_eq_false c]
        have e : decide (lo ≤ i ∧ i ≤ hi) = false := decide_eq_false fun z => c z.1
        rw [e] at q
        exact iteF q
    · rcases notInt_ty (K := K) z with ⟨t, ty, k⟩ | ⟨b, rfl⟩
      · refine ⟨_, rfl, _, _, _, _, false, rfl, .ty "int", ty, k, false, rfl, iteF ?_⟩
        exact q
      · refine ⟨_, rfl, _, _, _, _, true, rfl, .ty "int", .base (.bl b), kit_ty (by decide +kernel), true, rfl, iteT ?_⟩
        refine ⟨_, rfl, _, _, _, _, true, rfl, .ty "bool", .base (.bl b), kit_ty (by decide +kernel), true, rfl, false, rfl, iteF ?_⟩
        exact q
/-! ### the errors' __init__ -/
theorem scCI : FnScope ["self", "most"] ["self", "most"] (defScope sCI) := ⟨rfl, rfl, rfl, by decide +kernel, rfl, by decide +kernel, by decide +kernel⟩
theorem scTI : FnScope ["self", "most"] ["self", "most"] (defScope sTI) := ⟨rfl, rfl, rfl, by decide +kernel, rfl, by decide +kernel, by decide +kernel⟩
theorem ok_ci {f C : Addr} {fd : FuncData} (F : Fun K "__init__" "BadCount.__init__" sCI f fd) (T : OexC K C) (no : PySem.W.findIn K (.ref C) "most" = some none) : FnOk P w K mg base CX0 1 f fd ["self", "most"] (spXI C) := by
  refine F.ok scCI (fun vs H Q E h => ?_) (fun cdv A outer s H vs Q E hr h => ?_)
  · obtain ⟨a, v, rfl, _⟩ := h
    rfl
  · obtain ⟨a, v, rfl, ha, q⟩ := h
    refine ⟨_, pss_one (ps_ost (pv 0) (pv 1)), ?_⟩
    exact ⟨_, rfl, _, rfl, a, C, rfl, T, no, .inl ⟨ha, q⟩⟩
theorem ok_ti {f C : Addr} {fd : FuncData} (F : Fun K "__init__" "BadTotal.__init__" sTI f fd) (T : OexC K C) (no : PySem.W.findIn K (.ref C) "most" = some none) : FnOk P w K mg base CX0 1 f fd ["self", "most"] (spXI C) := by
  refine F.ok scTI (fun vs H Q E h => ?_) (fun cdv A outer s H vs Q E hr h => ?_)
  · obtain ⟨a, v, rfl, _⟩ := h
    rfl
  · obtain ⟨a, v, rfl, ha, q⟩ := h
    refine ⟨_, pss_one (ps_ost (pv 0) (pv 1)), ?_⟩
    exact ⟨_, rfl, _, rfl, a, C, rfl, T, no, .inl ⟨ha, q⟩⟩
/-! ### check_count, check_total, check_people -/
theorem scCkC : FnScope ["count", "most"] ["count", "most"] (defScope sCkC) := ⟨rfl, rfl, rfl, by decide +kernel, rfl, by decide +kernel, by decide +kernel⟩
theorem scCkT : FnScope ["total", "most"] ["total", "most"] (defScope sCkT) := ⟨rfl, rfl, rfl, by decide +kernel, rfl, by decide +kernel, by decide +kernel⟩
theorem scChP : FnScope ["people", "low"] ["people", "low"] (defScope sChP) := ⟨rfl, rfl, rfl, by decide +kernel, rfl, by decide +kernel, by decide +kernel⟩
theorem ok_ckc {f fW fI C : Addr} {fd fdW fdI : FuncData} {B : Blt mg} (F : Fun K "check_count" "check_count" sCkC f fd) (W : Df K mg "whole_within" sWh ["thing", "low", "high"] fW fdW) (X : ExC K mg "BadCount" C fI fdI)
    (GI : FnOk P w K mg base CX0 1 fI fdI ["self", "most"] (spXI C)) : FnOk P w K mg base (L2.CX P w) 3 f fd ["count", "most"] (spCk C) := by
  have GW : FnOk P w K mg base CX0 1 fW fdW ["thing", "low", "high"] spWh := ok_wh B W.F
  refine F.okX scCkC (fun vs H Q E h => ?_) (fun cdv A outer s H vs Q E hr h => ?_)
  · obtain ⟨x, most, rfl, _⟩ := h
    rfl
  · obtain ⟨x, most, rfl, h⟩ := h
    refine ⟨_, pss_cons (ps_if (pt_not (pt_val (pe_call GW (hr.mono (by decide)) (by rfl) W.g W.F.kp W.b .nil pass0 (pa_cons (pv 0) (pa_cons pe_int (pa_cons (pv 1) pa_nil))))))
        (pss_one (ps_raise rfl (takes_of rfl rfl rfl rfl) (pmk_oex X.ox X.ini X.fn GI hr X.b .nil pass0 (by rfl) X.g (pa_cons (pv 1) pa_nil)))) pss_nil)
      (pss_one (ps_ret (pv 0))), ?_⟩
    rcases h with ⟨ft, q⟩ | ⟨od, e⟩
    · refine ⟨_, rfl, _, rfl, x, 0, most, rfl, .inl ⟨ft, ?_⟩⟩
      exact ⟨true, rfl, iteF ⟨_, rfl, q⟩⟩
    · refine ⟨_, rfl, _, rfl, x, 0, most, rfl, .inr ⟨od, ?_⟩⟩
      refine ⟨false, rfl, iteT ⟨_, rfl, (by show 1 ≤ 1000; decide), fun a ha => ?_⟩⟩
      refine ⟨a, _, rfl, upd_same, fun dx hd ne => ?_⟩
      have ha0 : dx ≠ a := ne
      have hd0 : H dx = none := by rw [upd_ne ne] at hd; exact hd
      refine ⟨rfl, dx, xf (.int most), upd_same, by rw [upd_ne ne, upd_same], hd0, ?_⟩
      refine e dx _ (fun b o z => ?_) hd0 upd_same
      have b1 : b ≠ a := ne_of_none z ha
      have b2 : b ≠ dx := ne_of_none z hd0
      rw [upd_ne b2, del_ne b1, upd_ne b1, upd_ne b2, upd_ne b1]
      exact z
theorem ok_ckt {f fW fI C : Addr} {fd fdW fdI : FuncData} {B : Blt mg} (F : Fun K "check_total" "check_total" sCkT f fd) (W : Df K mg "whole_within" sWh ["thing", "low", "high"] fW fdW) (X : ExC K mg "BadTotal" C fI fdI)
    (GI : FnOk P w K mg base CX0 1 fI fdI ["self", "most"] (spXI C)) : FnOk P w K mg base (L2.CX P w) 3 f fd ["total", "most"] (spCk C) := by
  have GW : FnOk P w K mg base CX0 1 fW fdW ["thing", "low", "high"] spWh := ok_wh B W.F
  refine F.okX scCkT (fun vs H Q E h => ?_) (fun cdv A outer s H vs Q E hr h => ?_)
  · obtain ⟨x, most, rfl, _⟩ := h
    rfl
  · obtain ⟨x, most, rfl, h⟩ := h
    refine ⟨_, pss_cons (ps_if (pt_not (pt_val (pe_call GW (hr.mono (by decide)) (by rfl) W.g W.F.kp W.b .nil pass0 (pa_cons (pv 0) (pa_cons pe_int (pa_cons (pv 1) pa_nil))))))
        (pss_one (ps_raise rfl (takes_of rfl rfl rfl rfl) (pmk_oex X.ox X.ini X.fn GI hr X.b .nil pass0 (by rfl) X.g (pa_cons (pv 1) pa_nil)))) pss_nil)
      (pss_one (ps_ret (pv 0))), ?_⟩
    rcases h with ⟨ft, q⟩ | ⟨od, e⟩
    · refine ⟨_, rfl, _, rfl, x, 0, most, rfl, .inl ⟨ft, ?_⟩⟩
      exact ⟨true, rfl, iteF ⟨_, rfl, q⟩⟩
    · refine ⟨_, rfl, _, rfl, x, 0, most, rfl, .inr ⟨od, ?_⟩⟩
      refine ⟨false, rfl, iteT ⟨_, rfl, (by show 1 ≤ 1000; decide), fun a ha => ?_⟩⟩
      refine ⟨a, _, rfl, upd_same, fun dx hd ne => ?_⟩
      have ha0 : dx ≠ a := ne
      have hd0 : H dx = none := by rw [upd_ne ne] at hd; exact hd
      refine ⟨rfl, dx, xf (.int most), upd_same, by rw [upd_ne ne, upd_same], hd0, ?_⟩
      refine e dx _ (fun b o z => ?_) hd0 upd_same
      have b1 : b ≠ a := ne_of_none z ha
      have b2 : b ≠ dx := ne_of_none z hd0
      rw [upd_ne b2, del_ne b1, upd_ne b1, upd_ne b2, upd_ne b1]
      exact z
/-- BadPeople, a class without own __init__ -/
structure BpC (K : PySem.W.Frag) (mg : Str → Option Value) (C : Addr) (bm : List Value) : Prop where
  ex : PySem.W.excIn K C bm "ValueError.__new__" = true
  bm : bm = [.type "ValueError", .type "Exception", .type "BaseException", .type "object"]
  g : mg "BadPeople" = some (.ref C)
  kp : PySem.W.keepIn K (.ref C) = true
  sub : PySem.W.subIn K (.ref C) (.type "BaseException") = some true
  ty : PySem.W.typeIn K (.ref C) = some (.type "type")
theorem ok_chp {f fW C : Addr} {fd fdW : FuncData} {bm : List Value} {tk : Tok} (B : Blt mg) (F : FunD K "check_people" "check_people" (defArgs sChP) (defBody sChP) (defScope sChP) [.int 1] [] f fd) (W : Df K mg "is_whole" sIsW ["thing", "low", "high"] fW fdW) (T : BpC K mg C bm)
    (g5 : mg "MOST_PEOPLE" = some (.int 5 tk)) : FnOk P w K mg base (L2.CX P w) 2 f fd ["people", "low"] (spChP C) := by
  have GW : FnOk P w K mg base CX0 1 fW fdW ["thing", "low", "high"] spWh := ok_isw B W.F
  refine F.ok scChP (fun vs H Q E h => ?_) (fun cdv A outer s H vs Q E hr h => ?_)
  · obtain ⟨x, lo, rfl, _⟩ := h
    rfl
  · obtain ⟨x, lo, rfl, h⟩ := h
    obtain ⟨ex, rfl, g, kp, sub, ty⟩ := T
    refine ⟨_, pss_cons (ps_if (pt_not (pt_val (pe_call GW hr (by rfl) W.g W.F.kp W.b .nil pass0 (pa_cons (pv 0) (pa_cons (pv 1) (pa_cons (pe_glob (v := .int 5) rfl g5 ⟨_, rfl⟩) pa_nil))))))
        (pss_one (ps_raise rfl (takes_of rfl rfl rfl rfl) (R18.pmk_bare PySem.F.excBase_ValueError ex g kp (raises_own sub ty) rfl))) pss_nil)
      (pss_one (ps_ret (pv 0))), ?_⟩
    rcases h with ⟨ft, q⟩ | ⟨od, e⟩
    · refine ⟨_, rfl, _, rfl, x, lo, 5, rfl, .inl ⟨ft, ?_⟩⟩
      exact ⟨true, rfl, iteF ⟨_, rfl, q⟩⟩
    · refine ⟨_, rfl, _, rfl, x, lo, 5, rfl, .inr ⟨od, ?_⟩⟩
      exact ⟨false, rfl, iteT e⟩
end
end L2.K
namespace L2.K
open PySem PySem.Spec PyProof.Rows
/-! ### a NoPool -/
theorem lh : ¬ (("low" : Str) = "high") := by decide +kernel
theorem nf_low (lo hi : Int) : (nf lo hi).lookup ("low" : Str) = some (.int lo) := by
  unfold nf
  rw [lookup_putF, if_neg lh, lookup_putF, if_pos rfl]
theorem nf_high (lo hi : Int) : (nf lo hi).lookup ("high" : Str) = some (.int hi) := by
  unfold nf
  rw [lookup_putF, if_pos rfl]
/-- what the top has of the class NoPool -/
structure NpC (K : PySem.W.Frag) (mg : Str → Option Value) (C fI fE : Addr) (fdI fdE : FuncData) : Prop where
  cl : Cls K C
  nL : NoAttr K C "low"
  nH : NoAttr K C "high"
  g : mg "NoPool" = some (.ref C)
  make : Mk K C fI
  bI : Binds K fdI ["self", "low", "high"] []
  bE : Binds K fdE ["self", "other"] []
  eq : R18.EqC K C fE
  ca : PySem.W.findIn K (.ref C) "__class__" = some (some (.builtin "object.__class__"))
  cg : PySem.W.specialIn K (.builtin "object.__class__") "__get__" = some (some (.builtin "getset_descriptor.__get__"))
  ct : PySem.W.takesIn K (.builtin "object.__class__") = some true
  own : PySem.W.kitOne K (.ref C) (.ref C) = some true
  noN : PySem.W.kitOne K (.type "NoneType") (.ref C) = some false
  noB : PySem.W.kitOne K (.type "bool") (.ref C) = some false
  noS : PySem.W.kitOne K (.type "str") (.ref C) = some false
  noT : PySem.W.kitOne K (.type "tuple") (.ref C) = some false
  tup : PySem.W.kitOne K (.ref C) (.type "tuple") = some false
theorem NpC.ty {K : PySem.W.Frag} {mg : Str → Option Value} {C fI fE : Addr} {fdI fdE : FuncData} (T : NpC K mg C fI fE fdI fdE) {H : Hp} {a dx : Addr} {fs : List (Str × V)} (e : H a = some (.ins C dx fs)) : TyX K H (.ref a) (.ref C) :=
  .base (.ins e T.cl T.ca T.cg T.ct T.eq.ob)
section
variable {P : Program} {w : World} {K : PySem.W.Frag} {mg : Str → Option Value} {base : Heap}
theorem scNI : FnScope ["self", "low", "high"] ["self", "low", "high"] (defScope sNI) := ⟨rfl, rfl, rfl, by decide +kernel, rfl, by decide +kernel, by decide +kernel⟩
theorem scNE : FnScope ["self", "other"] ["self", "other"] (defScope sNE) := ⟨rfl, rfl, rfl, by decide +kernel, rfl, by decide +kernel, by decide +kernel⟩
theorem ok_ni {C fI fE : Addr} {fdI fdE : FuncData} (F : Fun K "__init__" "NoPool.__init__" sNI fI fdI) (T : NpC K mg C fI fE fdI fdE) : FnOk P w K mg base CX0 1 fI fdI ["self", "low", "high"] (spNI C) := by
  refine F.ok scNI (fun vs H Q E h => ?_) (fun cdv A outer s H vs Q E hr h => ?_)
  · obtain ⟨p, dx, lo, hi, rfl, _⟩ := h
    rfl
  · obtain ⟨p, dx, lo, hi, rfl, hp, q⟩ := h
    refine ⟨_, pss_cons (ps_fld (pv 0) (pv 1) rfl) (pss_one (ps_fld (pv 0) (pv 2) rfl)), ?_⟩
    refine ⟨_, rfl, _, rfl, p, C, dx, [], rfl, hp, T.cl, T.nL, (by show 0 < 1000; decide), _, rfl, _, rfl, p, C, dx, _, rfl, upd_same, T.cl, T.nH, (by show 1 < 1000; decide), ?_⟩
    refine q _ (fun b o z n => ?_) upd_same
    rw [upd_ne n, upd_ne n]
    exact z
theorem ok_ne {C fI fE : Addr} {fdI fdE : FuncData} (B : Blt mg) (F : Fun K "__eq__" "NoPool.__eq__" sNE fE fdE) (T : NpC K mg C fI fE fdI fdE) : FnOk P w K mg base CX0 1 fE fdE ["self", "other"] (spNE C) := by
  refine F.ok scNE (fun vs H Q E h => ?_) (fun cdv A outer s H vs Q E hr h => ?_)
  · obtain ⟨a, dx, lo, hi, y, rfl, _⟩ := h
    rfl
  · obtain ⟨a, dx, lo, hi, y, rfl, ha, h⟩ := h
    refine ⟨_, pss_one (ps_ret (pe_and (pe_callB call_isi (by rfl) B.isi bIsi (pa_cons (pv 1) (pa_cons (pe_glob (v := .ref C) (by rfl) T.g rfl) pa_nil)))
      (pe_and (pe_cmpR op_eq (pe_fld (pv 0) rfl) (pe_fld (pv 1) rfl) (nomark _)) (pe_one (pe_cmpR op_eq (pe_fld (pv 0) rfl) (pe_fld (pv 1) rfl) (nomark _)))))), ?_⟩
    rcases h with ⟨b, dy, lo', hi', rfl, hb, q⟩ | ⟨z, q⟩
    · refine ⟨_, rfl, _, _, _, _, true, rfl, .own C, T.ty hb, T.own, true, rfl, iteT ?_⟩
      refine ⟨_, rfl, a, C, dx, _, _, rfl, ha, T.cl, T.nL, nf_low _ _, _, rfl, b, C, dy, _, _, rfl, hb, T.cl, T.nL, nf_low _ _, rfl, _, rfl, ?_⟩
      by_cases c : lo = lo'
      · subst c
        rw [decide_eq_true rfl]
        refine iteT ⟨_, rfl, a, C, dx, _, _, rfl, ha, T.cl, T.nH, nf_high _ _, _, rfl, b, C, dy, _, _, rfl, hb, T.cl, T.nH, nf_high _ _, rfl, ?_⟩
        have e : decide (lo = lo ∧ hi = hi') = decide (V.int hi = V.int hi') := by simp
        rw [e] at q
        exact q
      · have n : decide (V.int lo = V.int lo') = false := decide_eq_false fun z => c (V.int.inj z)
        rw [n]
        have e : decide (lo = lo' ∧ hi = hi') = false := decide_eq_false fun z => c z.1
        rw [e] at q
        exact iteF q
    · have hk : ∃ t, TyX K H y t ∧ PySem.W.kitOne K t (.ref C) = some false := by
        rcases z with rfl | ⟨b, rfl⟩ | ⟨x, rfl⟩ | ⟨t, xs, rfl, e⟩
        · exact ⟨_, .base .non, T.noN⟩
        · exact ⟨_, .base (.bl b), T.noB⟩
        · exact ⟨_, .base (.str x), T.noS⟩
        · exact ⟨_, .base (.tup e), T.noT⟩
      obtain ⟨t, ty, k⟩ := hk
      exact ⟨_, rfl, _, _, _, _, false, rfl, .own C, ty, k, false, rfl, iteF q⟩
/-! ### next_room, risen_total; the law's own twins -/
theorem scNR : FnScope ["total", "people"] ["total", "people"] (defScope sNR) := ⟨rfl, rfl, rfl, by decide +kernel, rfl, by decide +kernel, by decide +kernel⟩
theorem scNext : FnScope ["_law_total", "_law_people"] ["_law_total", "_law_people"] (defScope sNext) := ⟨rfl, rfl, rfl, by decide +kernel, rfl, by decide +kernel, by decide +kernel⟩
theorem scUp : FnScope ["_law_total", "_law_people"] ["_law_total", "_law_people"] (defScope sUp) := ⟨rfl, rfl, rfl, by decide +kernel, rfl, by decide +kernel, by decide +kernel⟩
theorem scRT : FnScope ["total", "count", "people", "_"] ["total", "count", "people"] (defScope sRT) := ⟨rfl, rfl, rfl, by decide +kernel, rfl, by decide +kernel, by decide +kernel⟩
theorem scGreat : FnScope ["_law_count", "_law_people", "_law_total", "_law_k"] ["_law_count", "_law_people"] (defScope sGreat) := ⟨rfl, rfl, rfl, by decide +kernel, rfl, by decide +kernel, by decide +kernel⟩
theorem ok_nr {f : Addr} {fd : FuncData} (F : Fun K "next_room" "next_room" sNR f fd) : FnOk P w K mg base CX0 1 f fd ["total", "people"] spRoom := by
  refine F.ok scNR (fun vs H Q E h => ?_) (fun cdv A outer s H vs Q E hr h => ?_)
  · obtain ⟨t, m, rfl, _⟩ := h
    rfl
  · obtain ⟨t, m, rfl, h2, h5, q⟩ := h
    refine ⟨_, pss_one (ps_ret (pe_op op_add (pe_op op_fdiv (pv 0) (pe_op op_sub (pv 1) pe_int)) pe_int)), ?_⟩
    exact ⟨_, rfl, _, rfl, m, 1, rfl, rfl, t, m - 1, rfl, rfl, ⟨by omega, by omega⟩, _, _, rfl, rfl, q⟩
theorem ok_next {f : Addr} {fd : FuncData} (F : Fun K "_law_next" "_law_next" sNext f fd) : FnOk P w K mg base CX0 1 f fd ["_law_total", "_law_people"] spRoom := by
  refine F.ok scNext (fun vs H Q E h => ?_) (fun cdv A outer s H vs Q E hr h => ?_)
  · obtain ⟨t, m, rfl, _⟩ := h
    rfl
  · obtain ⟨t, m, rfl, h2, h5, q⟩ := h
    refine ⟨_, pss_one (ps_ret (pe_op op_add (pe_op op_fdiv (pv 0) (pe_op op_sub (pv 1) pe_int)) pe_int)), ?_⟩
    exact ⟨_, rfl, _, rfl, m, 1, rfl, rfl, t, m - 1, rfl, rfl, ⟨by omega, by omega⟩, _, _, rfl, rfl, q⟩
theorem ok_up {f : Addr} {fd : FuncData} (F : Fun K "_law_up" "_law_up" sUp f fd) : FnOk P w K mg base CX0 1 f fd ["_law_total", "_law_people"] spUp := by
  refine F.ok scUp (fun vs H Q E h => ?_) (fun cdv A outer s H vs Q E hr h => ?_)
  · obtain ⟨t, m, rfl, _⟩ := h
    rfl
  · obtain ⟨t, m, rfl, h2, h5, q⟩ := h
    refine ⟨_, pss_one (ps_ret (pe_op op_fdiv (pe_op op_sub (pe_op op_add (pv 0) (pv 1)) pe_int) (pv 1))), ?_⟩
    exact ⟨_, rfl, _, rfl, t, m, rfl, rfl, t + m, 1, rfl, rfl, _, rfl, t + m - 1, m, rfl, rfl, ⟨by omega, by omega⟩, q⟩
theorem ok_rt {f fN : Addr} {fd fdN : FuncData} (B : Blt mg) (F : Fun K "risen_total" "risen_total" sRT f fd) (N : Df K mg "next_room" sNR ["total", "people"] fN fdN) : FnOk P w K mg base CX0 2 f fd ["total", "count", "people"] spRT := by
  have GN : FnOk P w K mg base CX0 1 fN fdN ["total", "people"] spRoom := ok_nr N.F
  refine F.ok scRT (fun vs H Q E h => ?_) (fun cdv A outer s H vs Q E hr h => ?_)
  · obtain ⟨t, m, n, rfl, _⟩ := h
    rfl
  · obtain ⟨t, m, n, rfl, hn, h2, h5, q⟩ := h
    refine ⟨_, pss_cons (ps_for PassesOwn.never rfl (pi_range1 (by rfl) B.rng (pa_cons (pv 1) pa_nil)) (pg_name (i := 3) scRT.nd rfl (.inl rfl))
        (pss_one (ps_set (i := 0) scRT.nd rfl (.inl rfl) (pe_op op_add (pv 0) (pe_call GN hr (by rfl) N.g N.F.kp N.b .nil pass0 (pa_cons (pv 0) (pa_cons (pv 2) pa_nil)))))))
      (pss_one (ps_ret (pv 0))), ?_⟩
    refine ⟨_, rfl, n, rfl, by omega, by omega, for_range (lo := 0) (n := n) (fun i σ H1 => (∃ y, σ = [some (.int (K18.rise m t i)), some (.int n), some (.int m), y]) ∧ H1 = H) ⟨⟨none, rfl⟩, rfl⟩ ?_ ?_⟩
    · rintro i σ H1 hi ⟨⟨y, rfl⟩, rfl⟩
      refine ⟨_, rfl, _, rfl, _, rfl, K18.rise m t i, m, rfl, h2, h5, _, _, rfl, rfl, ?_⟩
      exact ⟨⟨_, rfl⟩, rfl⟩
    · rintro σ H1 ⟨⟨y, rfl⟩, rfl⟩
      exact ⟨_, rfl, q⟩
theorem ok_great {f fN : Addr} {fd fdN : FuncData} (B : Blt mg) (F : Fun K "_law_great" "_law_great" sGreat f fd) (N : Df K mg "_law_next" sNext ["_law_total", "_law_people"] fN fdN) : FnOk P w K mg base CX0 2 f fd ["_law_count", "_law_people"] spGreat := by
  have GN : FnOk P w K mg base CX0 1 fN fdN ["_law_total", "_law_people"] spRoom := ok_next N.F
  refine F.ok scGreat (fun vs H Q E h => ?_) (fun cdv A outer s H vs Q E hr h => ?_)
  · obtain ⟨n, m, rfl, _⟩ := h
    rfl
  · obtain ⟨n, m, rfl, hn, h2, h5, q⟩ := h
    refine ⟨_, pss_cons (ps_set (i := 2) scGreat.nd rfl (.inl rfl) pe_int) (pss_cons (ps_for PassesOwn.never rfl (pi_range1 (by rfl) B.rng (pa_cons (pv 0) pa_nil)) (pg_name (i := 3) scGreat.nd rfl (.inl rfl))
        (pss_one (ps_set (i := 2) scGreat.nd rfl (.inl rfl) (pe_op op_add (pv 2) (pe_call GN hr (by rfl) N.g N.F.kp N.b .nil pass0 (pa_cons (pv 2) (pa_cons (pv 1) pa_nil)))))))
      (pss_one (ps_ret (pv 2)))), ?_⟩
    refine ⟨_, rfl, n, rfl, by omega, by omega, for_range (lo := 0) (n := n) (fun i σ H1 => (∃ y, σ = [some (.int n), some (.int m), some (.int (K18.rise m 0 i)), y]) ∧ H1 = H) ⟨⟨none, rfl⟩, rfl⟩ ?_ ?_⟩
    · rintro i σ H1 hi ⟨⟨y, rfl⟩, rfl⟩
      refine ⟨_, rfl, _, rfl, _, rfl, K18.rise m 0 i, m, rfl, h2, h5, _, _, rfl, rfl, ?_⟩
      exact ⟨⟨_, rfl⟩, rfl⟩
    · rintro σ H1 ⟨⟨y, rfl⟩, rfl⟩
      exact ⟨_, rfl, q⟩
end
end L2.K
namespace L2.K
open PySem PySem.Spec PyProof.Rows
section
variable {P : Program} {w : World} {K : PySem.W.Frag} {mg : Str → Option Value} {base : Heap}
/-- what a callee raises goes on as it is -/
theorem passX {X : Cx} {E : XK} (tk : Takes X (fun cls d _ H => E cls d H)) : Passes (L2.CX X.prog X.w) X E := passes_call tk fun _ _ _ _ z => z
theorem p9 : (10 : Int) ^ (9 : Int).toNat = 1000000000 := by decide
theorem c9 : CPow 10 9 := ⟨by decide, by decide, by decide⟩
theorem scPF : FnScope ["count", "total", "people", "high", "coins", "reached", "left", "coin"] ["count", "total", "people"] (defScope sPF) := ⟨rfl, rfl, rfl, by decide +kernel, rfl, by decide +kernel, by decide +kernel⟩
theorem ok_pf {f fC fT fP fR fN cP cC cT cN fI fE : Addr} {fd fdC fdT fdP fdR fdN fdI fdE : FuncData} (B : Blt mg) (F : Fun K "pool_for" "pool_for" sPF f fd)
    (C : Df K mg "check_count" sCkC ["count", "most"] fC fdC) (GC : FnOk P w K mg base (L2.CX P w) 3 fC fdC ["count", "most"] (spCk cC))
    (T : Df K mg "check_total" sCkT ["total", "most"] fT fdT) (GT : FnOk P w K mg base (L2.CX P w) 3 fT fdT ["total", "most"] (spCk cT))
    (gP : mg "check_people" = some (.ref fP)) (kP : PySem.W.keepIn K (.ref fP) = true) (bP : Binds K fdP ["people", "low"] []) (GP : FnOk P w K mg base (L2.CX P w) 2 fP fdP ["people", "low"] (spChP cP))
    (R : Df K mg "risen_total" sRT ["total", "count", "people"] fR fdR) (GR : FnOk P w K mg base CX0 2 fR fdR ["total", "count", "people"] spRT)
    (N : Df K mg "next_room" sNR ["total", "people"] fN fdN) (GN : FnOk P w K mg base CX0 1 fN fdN ["total", "people"] spRoom)
    (Z : NpC K mg cN fI fE fdI fdE) (GI : FnOk P w K mg base CX0 1 fI fdI ["self", "low", "high"] (spNI cN)) :
    FnOk P w K mg base (L2.CX P w) 4 f fd ["count", "total", "people"] (spPF cP cC cT cN) := by
  refine F.okX scPF (fun vs H Q E h => ?_) (fun cdv A outer s H vs Q E hr h => ?_)
  · obtain ⟨c, t, p, rfl, _⟩ := h
    rfl
  · have hr1 : Room 1 (A.deeper (envOfC "pool_for" (defScope sPF) s.heap.objs.size f cdv)) := hr.mono (by decide)
    have hr2 : Room 2 (A.deeper (envOfC "pool_for" (defScope sPF) s.heap.objs.size f cdv)) := hr.mono (by decide)
    refine ⟨_, pss_cons (ps_expr (pe_call GC hr (by rfl) C.g C.F.kp C.b .nil (by exact passX (takes_of rfl rfl rfl rfl)) (pa_cons (pv 0) (pa_cons pe_int pa_nil))))
      (pss_cons (ps_expr (pe_call GT hr (by rfl) T.g T.F.kp T.b .nil (by exact passX (takes_of rfl rfl rfl rfl)) (pa_cons (pv 1) (pa_cons (pe_op op_pow pe_int pe_int) pa_nil))))
      (pss_cons (ps_expr (pe_call GP hr2 (by rfl) gP kP bP .nil (by exact passX (takes_of rfl rfl rfl rfl)) (pa_cons (pv 2) (pa_cons pe_int pa_nil))))
      (pss_cons (ps_set (i := 3) scPF.nd rfl (.inl rfl) (pe_call GR hr2 (by rfl) R.g R.F.kp R.b .nil pass0 (pa_cons pe_int (pa_cons (pv 0) (pa_cons (pv 2) pa_nil)))))
      (pss_cons (ps_if (pt_not (pt_chain op_le op_le (pv 0) (pv 1) (pv 3))) (pss_one (ps_ret (pe_make Z.make GI hr2 (by rfl) Z.g Z.bI .nil pass0 (pa_cons (pv 0) (pa_cons (pv 3) pa_nil))))) pss_nil)
      (pss_cons (ps_set (i := 4) scPF.nd rfl (.inl rfl) (pe_lst pa_nil))
      (pss_cons (ps_set (i := 5) scPF.nd rfl (.inl rfl) pe_int)
      (pss_cons (ps_for (passes_of rfl) rfl (pi_range3 (by rfl) B.rng (pa_cons (pe_op op_sub (pv 0) pe_int) (pa_cons (pe_un un_neg pe_int) (pa_cons (pe_un un_neg pe_int) pa_nil)))) (pg_name (i := 6) scPF.nd rfl (.inl rfl))
        (pss_cons (ps_set (i := 7) scPF.nd rfl (.inl rfl) (pe_callB (call_min2 rfl) (by rfl) B.min bMin
            (pa_cons (pe_call GN hr1 (by rfl) N.g N.F.kp N.b .nil pass0 (pa_cons (pv 5) (pa_cons (pv 2) pa_nil))) (pa_cons (pe_op op_sub (pe_op op_sub (pv 1) (pv 5)) (pv 6)) pa_nil))))
        (pss_cons (ps_expr (pe_bm PySem.F.plainAttrs_list PySem.F.slot_list_append PySem.F.type_list_append mt_append (pv 4) (pa_cons (pv 7) pa_nil)))
        (pss_one (ps_set (i := 5) scPF.nd rfl (.inl rfl) (pe_op op_add (pv 5) (pv 7)))))))
      (pss_one (ps_ret (pe_callTy call_tuple_of (by rfl) B.tup bTup (pa_cons (pe_callB cr_sortedI (by rfl) B.srt bSrt (pa_cons (pv 4) pa_nil)) pa_nil))))))))))), ?_⟩
    obtain ⟨c, t, p, rfl, h⟩ := h
    rcases h with ⟨n, S, m, rfl, rfl, rfl, hn, hS0, hS9, hm2, hm5, good, bad⟩ | ⟨od, e⟩ | ⟨ft, od, e⟩ | ⟨ft, ft2, od, e⟩
    · -- the checks
      refine ⟨_, rfl, _, 12, rfl, .inl ⟨⟨n, rfl, by omega, by omega⟩, ?_⟩⟩
      refine ⟨_, rfl, 10, 9, rfl, rfl, c9, _, _, rfl, .inl ⟨⟨S, rfl, hS0, by rw [p9]; exact hS9⟩, ?_⟩⟩
      refine ⟨_, rfl, _, 2, rfl, .inl ⟨⟨m, rfl, hm2, hm5⟩, ?_⟩⟩
      -- high
      refine ⟨_, rfl, _, rfl, 0, m, n, rfl, hn, hm2, hm5, ?_⟩
      by_cases c1 : (n : Int) ≤ S
      · by_cases c2 : S ≤ K18.rise m 0 n
        · -- in between
          refine ⟨_, rfl, _, rfl, n, S, rfl, rfl, true, congrArg V.bl (decide_eq_true c1), iteT ⟨_, rfl, S, _, rfl, rfl, true, congrArg V.bl (decide_eq_true c2), iteF ?_⟩⟩
          refine ⟨Nat.zero_le _, fun l nl => ?_⟩
          have s1 : Same H (upd H l (.lst [])) := same_upd nl
          have eN : ((n : Int) - 1 - -1).toNat = n := by omega
          refine ⟨_, rfl, n, 1, rfl, rfl, 1, rfl, 1, rfl, (n : Int) - 1, -1, -1, _, rfl, RgC.neg (by omega) (by omega) (by omega) (by omega), ?_⟩
          rw [eN]
          refine for_rangeC (lo := (n : Int) - 1) (c := -1) (n := n) (fun i σ H1 => ∃ (cs : List Int) (k : Nat) (y6 y7 : Option V), σ = [some (.int n), some (.int S), some (.int m), some (.int (K18.rise m 0 n)), some (.ref l), some (.int cs.sum), y6, y7] ∧
              cs.length = i ∧ i + k = n ∧ K18.Ins m 0 cs ∧ 0 ≤ cs.sum ∧ cs.sum + k ≤ S ∧ S ≤ K18.rise m cs.sum k ∧ Same H H1 ∧ H1 l = some (.lst (cs.map V.int)))
            ⟨[], n, none, none, rfl, rfl, by omega, trivial, by simp, by simpa using c1, by simpa using c2, s1, upd_same⟩ ?_ ?_
          · rintro i σ H1 hi ⟨cs, k, y6, y7, rfl, hl, hk, ins, hc0, hc1, hc2, sm, el⟩
            obtain ⟨k', rfl⟩ : ∃ k', k = k' + 1 := ⟨k - 1, by omega⟩
            have ev : (n : Int) - 1 + (i : Nat) * -1 = k' := by omega
            rw [ev]
            obtain ⟨t1, t2, t3, t4⟩ := K18.fill_turn (m := m) (total := S) (r := cs.sum) (n := k') hm2 hc0 hc1 hc2 rfl
            refine ⟨_, rfl, _, rfl, cs.sum, m, rfl, hm2, hm5, _, rfl, _, rfl, S, cs.sum, rfl, rfl, _, rfl, S - cs.sum, k', rfl, rfl, _, _, rfl, ?_⟩
            refine ⟨.ref l, rfl, .inl ⟨rfl, _, .inl (.inl el)⟩, _, rfl, l, _, _, rfl, rfl, el, ?_, ?_⟩
            · rw [List.length_map]
              exact small1000 (by omega)
            · refine ⟨_, rfl, _, rfl, cs.sum, _, rfl, rfl, ?_⟩
              refine ⟨cs ++ [if S - cs.sum - k' < K18.room cs.sum m then S - cs.sum - k' else K18.room cs.sum m], k', some (.int k'), some (.int (if S - cs.sum - k' < K18.room cs.sum m then S - cs.sum - k' else K18.room cs.sum m)), ?_, by simp [hl], by omega, K18.ins_snoc ins t1 (by rw [Int.zero_add]; exact t2), ?_, ?_, ?_, fun b o z => ?_, ?_⟩
              · rw [K18.sum_snoc]
                rfl
              · rw [K18.sum_snoc]
                omega
              · rw [K18.sum_snoc]
                exact t3
              · rw [K18.sum_snoc]
                exact t4
              · rw [upd_ne (ne_of_none z nl)]
                exact sm _ _ z
              · rw [upd_same, List.map_append]
                rfl
          · rintro σ H1 ⟨cs, k, y6, y7, rfl, hl, hk, ins, hc0, hc1, hc2, sm, el⟩
            obtain rfl : k = 0 := by omega
            have eS : cs.sum = S := by
              have z : S ≤ cs.sum := hc2
              omega
            refine ⟨_, rfl, l, cs, rfl, .inl (.inl el), fun ys p hp hw np => ?_⟩
            refine ⟨p, _, rfl, .inl ⟨.inl (.inl upd_same), fun q nq => ?_⟩⟩
            have s2 : Same H1 (upd H1 p (.lst (ys.map V.int))) := same_upd np
            have s3 : Same (upd H1 p (.lst (ys.map V.int))) (upd (upd H1 p (.lst (ys.map V.int))) q (.tup (ys.map V.int))) := same_upd nq
            exact good ⟨c1, c2⟩ ys q _ (sm.trans (s2.trans s3)) (sm.free (s2.free nq)) upd_same ⟨cs, ins, hp, hw, eS, hl⟩
        · -- above
          refine ⟨_, rfl, _, rfl, n, S, rfl, rfl, true, congrArg V.bl (decide_eq_true c1), iteT ⟨_, rfl, S, _, rfl, rfl, false, congrArg V.bl (decide_eq_false c2), iteT ?_⟩⟩
          refine ⟨_, rfl, _, rfl, fun x dx nx ndx ne => ⟨x, dx, n, K18.rise m 0 n, rfl, upd_same, fun H' kp hx => ⟨rfl, ?_⟩⟩⟩
          exact bad (fun z => c2 z.2) x dx H' (Same.made nx ndx kp) nx hx
      · refine ⟨_, rfl, _, rfl, n, S, rfl, rfl, false, congrArg V.bl (decide_eq_false c1), iteF ⟨false, rfl, iteT ?_⟩⟩
        refine ⟨_, rfl, _, rfl, fun x dx nx ndx ne => ⟨x, dx, n, K18.rise m 0 n, rfl, upd_same, fun H' kp hx => ⟨rfl, ?_⟩⟩⟩
        exact bad (fun z => c1 z.1) x dx H' (Same.made nx ndx kp) nx hx
    · exact ⟨_, rfl, _, 12, rfl, .inr ⟨od, e⟩⟩
    · refine ⟨_, rfl, _, 12, rfl, .inl ⟨ft, ?_⟩⟩
      exact ⟨_, rfl, 10, 9, rfl, rfl, c9, _, _, rfl, .inr ⟨by rw [p9]; exact od, fun d H' s1 nd e1 => e d H' s1 nd (by rw [p9] at e1; exact e1)⟩⟩
    · refine ⟨_, rfl, _, 12, rfl, .inl ⟨ft, ?_⟩⟩
      refine ⟨_, rfl, 10, 9, rfl, rfl, c9, _, _, rfl, .inl ⟨by rw [p9]; exact ft2, ?_⟩⟩
      exact ⟨_, rfl, _, 2, rfl, .inr ⟨od, e H (Same.refl H)⟩⟩
end
end L2.K
namespace L2.K
open PySem PySem.Spec PyProof.Rows
theorem small18 {i : Int} (h1 : -1000000000000 < i) (h2 : i < 1000000000000) : -(2 ^ 64) < i ∧ i < 2 ^ 64 := ⟨by omega, by omega⟩
theorem HandAt.put {H : Hp} {h l : Addr} {cells : List Int} {p q r : Int} (hl : H l = some (.lst (cells.map V.int))) (ne : l ≠ h) (h0 : 0 ≤ p) (h1 : 0 ≤ q) (h2 : cells.length ≤ 63) (h3 : ∀ c ∈ cells, 0 ≤ c) : HandAt (upd H h (.lst [.ref l, .int p, .int q, .int r])) h :=
  ⟨l, cells, p, q, r, upd_same, (upd_ne ne).trans hl, ne, h0, h1, h2, h3⟩
theorem HandL.put {H : Hp} {h l : Addr} {cells : List Int} {p q r : Int} (hl : H l = some (.lst (cells.map V.int))) (ne : l ≠ h) (h0 : 0 ≤ p) (h1 : 0 ≤ q) (h2 : cells.length ≤ 63) (h3 : ∀ c ∈ cells, 0 ≤ c) : HandL (upd H h (.lst [.ref l, .int p, .int q, .int r])) h l :=
  ⟨cells, p, q, r, upd_same, (upd_ne ne).trans hl, ne, h0, h1, h2, h3⟩
theorem Keep.put (h : Addr) (H : Hp) (o : HO) : Keep h H (upd H h o) := fun b x n e => (upd_ne n).trans e
section
variable {P : Program} {w : World} {K : PySem.W.Frag} {mg : Str → Option Value} {base : Heap}
/-! ### the mix: some int -/
theorem scMix : FnScope ["_law_number", "_law_turn", "_law_once", "_law_twice"] ["_law_number", "_law_turn"] (defScope sMix) := ⟨rfl, rfl, rfl, by decide +kernel, rfl, by decide +kernel, by decide +kernel⟩
theorem ok_mix {f : Addr} {fd : FuncData} (B : Blt mg) (F : Fun K "_law_mix" "_law_mix" sMix f fd) : FnOk P w K mg base CX0 1 f fd ["_law_number", "_law_turn"] spMix := by
  refine F.ok scMix (fun vs H Q E h => ?_) (fun cdv A outer s H vs Q E hr h => ?_)
  · obtain ⟨a, b, rfl, _⟩ := h
    rfl
  · refine ⟨_, pss_cons (ps_set (i := 2) scMix.nd rfl (.inl rfl) (pe_op op_mod (pe_callTy call_int1 (by rfl) B.int bInt (pa_cons (pe_op op_add (pe_op op_add (pe_op op_mul (pv 0) pe_int) (pe_op op_mul (pv 1) pe_int)) pe_int) pa_nil)) pe_int))
      (pss_cons (ps_set (i := 3) scMix.nd rfl (.inl rfl) (pe_op op_mod (pe_callTy call_int1 (by rfl) B.int bInt (pa_cons (pe_op op_add (pe_op op_add (pe_op op_mul (pv 2) (pv 2)) (pe_op op_mul (pe_op op_fdiv (pv 2) pe_int) pe_int)) (pe_op op_mul (pv 1) pe_int)) pa_nil)) pe_int))
      (pss_one (ps_ret (pe_op op_fdiv (pe_op op_mod (pe_callTy call_int1 (by rfl) B.int bInt (pa_cons (pe_op op_add (pe_op op_fdiv (pe_op op_mul (pv 3) (pv 3)) pe_int) (pv 2)) pa_nil)) pe_int) pe_int)))), ?_⟩
    obtain ⟨a, b, rfl, q⟩ := h
    have sm : ∀ {i : Int}, -1000000000000 < i → i < 1000000000000 → -(2 ^ 64) < i ∧ i < 2 ^ 64 := small18
    refine ⟨_, rfl, a, 48271, rfl, rfl, .inr (sm (by decide) (by decide)), _, rfl, b, 16807, rfl, rfl, .inr (sm (by decide) (by decide)), _, _, rfl, rfl, _, 11, rfl, rfl, .inl ⟨_, rfl, _, 2147483647, rfl, rfl, (by show (0 : Int) < 2147483647; decide), ?_⟩⟩
    have o1 := Int.emod_nonneg (a * 48271 + b * 16807 + 11) (show (2147483647 : Int) ≠ 0 by decide)
    have o2 := Int.emod_lt_of_pos (a * 48271 + b * 16807 + 11) (show (0 : Int) < 2147483647 by decide)
    have o3 := sm (Int.lt_of_lt_of_le (by decide) o1) (Int.lt_trans o2 (by decide))
    refine ⟨_, rfl, _, rfl, _, _, rfl, rfl, .inl o3, _, rfl, _, 127, rfl, rfl, ⟨by decide, by decide⟩, _, 40692, rfl, rfl, .inr (sm (by decide) (by decide)), _, _, rfl, rfl,
      _, rfl, b, 69621, rfl, rfl, .inr (sm (by decide) (by decide)), _, _, rfl, rfl, .inl ⟨_, rfl, _, 2147483399, rfl, rfl, (by show (0 : Int) < 2147483399; decide), ?_⟩⟩
    have t1 := fun k : Int => Int.emod_nonneg k (show (2147483399 : Int) ≠ 0 by decide)
    have t2 := fun k : Int => Int.emod_lt_of_pos k (show (0 : Int) < 2147483399 by decide)
    have t3 := fun k : Int => sm (Int.lt_of_lt_of_le (by decide) (t1 k)) (Int.lt_trans (t2 k) (by decide))
    exact ⟨_, rfl, _, rfl, _, _, rfl, rfl, .inl (t3 _), _, 1009, rfl, rfl, ⟨by decide, by decide⟩, _, rfl, _, _, rfl, rfl, .inl ⟨_, rfl, _, 2147483563, rfl, rfl, (by show (0 : Int) < 2147483563; decide), _, 16, rfl, rfl, ⟨by decide, by decide⟩, q _⟩⟩
/-! ### the hand -/
theorem scHand : FnScope ["_law_script", "_law_total", "_law_k", "_law_cell"] ["_law_script"] (defScope sHand) := ⟨rfl, rfl, rfl, by decide +kernel, rfl, by decide +kernel, by decide +kernel⟩
theorem ok_hand {f : Addr} {fd : FuncData} (B : Blt mg) (F : Fun K "_law_hand" "_law_hand" sHand f fd) : FnOk P w K mg base CX0 1 f fd ["_law_script"] (spHand K) := by
  refine F.ok scHand (fun vs H Q E h => ?_) (fun cdv A outer s H vs Q E hr h => ?_)
  · obtain ⟨a, ns, rfl, _⟩ := h
    rfl
  · refine ⟨_, pss_cons (ps_set (i := 1) scHand.nd rfl (.inl rfl) pe_int)
      (pss_cons (ps_for PassesOwn.never rfl (pi_enum (by rfl) B.enu (pa_cons (pv 0) pa_nil)) (pg_tup rfl (pgs_cons (pg_name (i := 2) scHand.nd rfl (.inl rfl)) (pgs_cons (pg_name (i := 3) scHand.nd rfl (.inl rfl)) pgs_nil)))
        (pss_one (ps_set (i := 1) scHand.nd rfl (.inl rfl) (pe_op op_mod (pe_callTy call_int1 (by rfl) B.int bInt (pa_cons (pe_op op_add (pe_op op_mul (pv 1) pe_int)
          (pe_op op_mul (pe_callTy call_int1 (by rfl) B.int bInt (pa_cons (pv 3) pa_nil)) (pe_op op_add (pv 2) pe_int))) pa_nil)) pe_int))))
      (pss_one (ps_ret (pe_lst (pa_cons (pe_lc (own := [("_law_cell", 3)]) (g := gName 3) (tt := tYes) rfl scHand.nd (pi_list (pv 0)) (blkOk_by (N := ["_law_script", "_law_total", "_law_k", "_law_cell"]) (sc := defScope sHand) (by decide +kernel))
          (fun _ _ _ _ _ => pg_name (i := 3) scHand.nd rfl (.inl rfl)) (fun _ _ _ _ _ => pts_nil)
          (fun _ _ _ _ _ => pe_callB call_abs (by rfl) B.abs bAbs (pa_cons (pe_callTy call_int1 (by rfl) B.int bInt (pa_cons (pv 3) pa_nil)) pa_nil)))
        (pa_cons pe_int (pa_cons pe_int (pa_cons (pv 1) pa_nil)))))))), ?_⟩
    obtain ⟨a, ns, rfl, hS, hlen, q⟩ := h
    refine ⟨_, rfl, a, ns.map V.int, rfl, hS, for_it (walk_enum (K := K) (a := a) (xs := ns.map V.int)) (fun i σ H1 => ∃ (z : Int) (y2 y3 : Option V), σ = [some (.ref a), some (.int z), y2, y3] ∧ Same H H1)
      ⟨0, none, none, rfl, Same.refl H⟩ (fun i σ H1 _ ⟨_, _, _, _, sm⟩ => sm.seq hS) ?_ ?_⟩
    · rintro i x σ H1 H2 hi ⟨z, y2, y3, rfl, sm⟩ ⟨T, k, c, rfl, nT, rfl, ek, ec⟩
      obtain rfl : V.int (i : Nat) = k := Option.some.inj ek
      obtain ⟨ci, hci, rfl⟩ : ∃ ci, ns[i]? = some ci ∧ V.int ci = c := by
        have ec : (ns.map V.int)[i]? = some c := ec
        rw [List.getElem?_map] at ec
        cases e : ns[i]? with
        | none => rw [e] at ec; cases ec
        | some ci => rw [e] at ec; exact ⟨ci, rfl, Option.some.inj ec⟩
      have hi63 : i < 63 := by rw [List.length_map] at hi; omega
      refine ⟨T, _, rfl, .inl (.inl upd_same), rfl, _, _, rfl, _, _, rfl, rfl, ?_⟩
      refine ⟨_, rfl, z, 31, rfl, rfl, .inr (small18 (by decide) (by decide)), _, rfl, .inl ⟨ci, rfl, _, rfl, (i : Nat), 7, rfl, rfl, ci, (i : Nat) + 7, rfl, rfl, .inr (small18 (by omega) (by omega)), _, _, rfl, rfl, .inl ⟨_, rfl, _, 2147483629, rfl, rfl, (by show (0 : Int) < 2147483629; decide), ?_⟩⟩⟩
      exact ⟨_, _, _, rfl, fun b o e => by rw [upd_ne (ne_of_none (sm _ _ e) nT)]; exact sm _ _ e⟩
    · rintro σ H1 ⟨z, y2, y3, rfl, sm⟩
      have hA : SqL K H1 a (ns.map V.int) := sm.seq hS
      refine ⟨_, rfl, a, rfl, ⟨_, hA⟩, fun D nD => lc_list (K := K) (a := a) (xs := ns.map V.int) (fun i H2 => ∃ cells : List Int, cells.length = i ∧ (∀ c ∈ cells, 0 ≤ c) ∧ H2 D = some (.lst (cells.map V.int)) ∧ Same H1 H2)
        ⟨[], rfl, (fun c hc => by cases hc), upd_same, same_upd nD⟩ (fun i H2 _ ⟨_, _, _, _, s2⟩ => s2.seq hA) ?_ ?_⟩
      · rintro i x H2 hx ⟨cells, el, pos, eD, s2⟩
        obtain ⟨ci, hci, rfl⟩ : ∃ ci, ns[i]? = some ci ∧ V.int ci = x := by
          rw [List.getElem?_map] at hx
          cases e : ns[i]? with
          | none => rw [e] at hx; cases hx
          | some ci => rw [e] at hx; exact ⟨ci, rfl, Option.some.inj hx⟩
        have hi : i < ns.length := (List.getElem?_eq_some_iff.mp hci).1
        refine ⟨rfl, ?_⟩
        dsimp only [tYes]
        rw [if_pos rfl]
        refine ⟨_, rfl, .inl ⟨ci, rfl, ci, rfl, cells.map V.int, eD, ?_, ?_⟩⟩
        · rw [List.length_map]
          exact small1000 (by omega)
        · refine ⟨cells ++ [if ci < 0 then -ci else ci], by simp [el], fun c hc => ?_, ?_, fun b o e => ?_⟩
          · rcases List.mem_append.mp hc with hc | hc
            · exact pos c hc
            · obtain rfl : c = if ci < 0 then -ci else ci := by simpa using hc
              split <;> omega
          · rw [upd_same, List.map_append]
            rfl
          · rw [upd_ne (ne_of_none e nD)]
            exact s2 _ _ e
      · rintro H2 ⟨cells, el, pos, eD, s2⟩
        rw [List.length_map] at el
        refine ⟨_, rfl, (by show 4 ≤ sizeLine; decide), fun h nh => ?_⟩
        have nDh : D ≠ h := ne_of_none eD nh
        refine q h _ (sm.trans (s2.trans (same_upd nh))) (sm.free (s2.free nh)) (HandAt.put eD nDh (by omega) (by omega) (by omega) pos)
end
end L2.K
namespace L2.K
open PySem PySem.Spec PyProof.Rows
section
variable {P : Program} {w : World} {K : PySem.W.Frag} {mg : Str → Option Value} {base : Heap}
/-! ### a draw -/
theorem scDraw : FnScope ["_law_hand_here", "_law_many", "_law_cell", "_law_rest"] ["_law_hand_here", "_law_many"] (defScope sDraw) := ⟨rfl, rfl, rfl, by decide +kernel, rfl, by decide +kernel, by decide +kernel⟩
theorem ok_drawL {f fM : Addr} {fd fdM : FuncData} (B : Blt mg) (F : Fun K "_law_draw" "_law_draw" sDraw f fd) (M : Df K mg "_law_mix" sMix ["_law_number", "_law_turn"] fM fdM) : FnOk P w K mg base CX0 2 f fd ["_law_hand_here", "_law_many"] spDrawL := by
  have GM : FnOk P w K mg base CX0 1 fM fdM ["_law_number", "_law_turn"] spMix := ok_mix B M.F
  refine F.ok scDraw (fun vs H Q E h => ?_) (fun cdv A outer s H vs Q E hr h => ?_)
  · obtain ⟨a, many, l, rfl, _⟩ := h
    rfl
  · refine ⟨_, C8.pss_cut (ps_if (pw_and (pt_cmpR op_eq (pe_ix ix_list (pv 0) pe_int (fun _ _ => rfl)) pe_int (nomark _))
          (pw_and1 (pt_cmpR op_lt (pe_ix ix_list (pv 0) pe_int (fun _ _ => rfl)) (pe_callB call_len_seq (by rfl) B.len bLen (pa_cons (pe_ix ix_list (pv 0) pe_int (fun _ _ => rfl)) pa_nil)) (nomark _)))).pt
        (pss_cons (ps_set (i := 2) scDraw.nd rfl (.inl rfl) (pe_ix ix_list (pe_ix ix_list (pv 0) pe_int (fun _ _ => rfl)) (pe_ix ix_list (pv 0) pe_int (fun _ _ => rfl)) (fun _ _ => rfl)))
        (pss_cons (ps_asg (pe_op op_add (pe_ix ix_list (pv 0) pe_int (fun _ _ => rfl)) pe_int) (pg_sub (pv 0) pe_int set_list))
        (pss_cons (ps_if (pt_cmpR op_lt (pv 2) (pe_op op_pow pe_int pe_int) (nomark _))
          (pss_one (ps_ret (pe_op op_mod (pe_callTy call_int1 (by rfl) B.int bInt (pa_cons (pe_call GM hr (by rfl) M.g M.F.kp M.b .nil pass0
            (pa_cons (pe_op op_mod (pe_callTy call_int1 (by rfl) B.int bInt (pa_cons (pv 2) pa_nil)) pe_int) (pa_cons (pe_ix ix_list (pv 0) pe_int (fun _ _ => rfl)) pa_nil))) pa_nil)) (pv 1)))) pss_nil)
        (pss_one (ps_asg (pv 2) (pg_sub (pv 0) pe_int set_list)))))) pss_nil)
      (pss_cons (ps_if (pt_cmpR op_gt (pe_ix ix_list (pv 0) pe_int (fun _ _ => rfl)) pe_int (nomark _))
          (pss_cons (ps_set (i := 3) scDraw.nd rfl (.inl rfl) (pe_ix ix_list (pv 0) pe_int (fun _ _ => rfl)))
          (pss_cons (ps_asg (pe_op op_fdiv (pv 3) (pv 1)) (pg_sub (pv 0) pe_int set_list))
          (pss_one (ps_ret (pe_op op_mod (pe_callTy call_int1 (by rfl) B.int bInt (pa_cons (pv 3) pa_nil)) (pv 1)))))) pss_nil)
      (pss_cons (ps_asg (pe_op op_mod (pe_callTy call_int1 (by rfl) B.int bInt (pa_cons (pe_op op_add (pe_ix ix_list (pv 0) pe_int (fun _ _ => rfl)) pe_int) pa_nil)) pe_int) (pg_sub (pv 0) pe_int set_list))
      (pss_one (ps_ret (pe_op op_mod (pe_callTy call_int1 (by rfl) B.int bInt (pa_cons (pe_call GM hr (by rfl) M.g M.F.kp M.b .nil pass0
            (pa_cons (pe_ix ix_list (pv 0) pe_int (fun _ _ => rfl)) (pa_cons (pe_ix ix_list (pv 0) pe_int (fun _ _ => rfl)) pa_nil))) pa_nil)) (pv 1)))))), ?_⟩
    obtain ⟨a, many, l, rfl, ha, m0, m1, q⟩ := h
    have fin : ∀ (v : Int) (H' : Hp), HandL H' a l → Keep a H H' → Q (.int (v % many)) H' := fun v H' h1 h2 => q _ H' (Int.emod_nonneg _ (by omega)) (Int.emod_lt_of_pos _ m0) h1 h2
    refine ⟨fun σ H1 => ∃ y2 y3, σ = [some (.ref a), some (.int many), y2, y3] ∧ HandL H1 a l ∧ Keep a H H1, ?_, ?_⟩
    · -- the first if
      obtain ⟨cells, p, c, r, h1, h2, ne, p0, c0, hl, pos⟩ := ha
      have hand : HandL H a l := ⟨cells, p, c, r, h1, h2, ne, p0, c0, hl, pos⟩
      have L1 : SqL K H a [.ref l, .int p, .int c, .int r] := .inl (.inl h1)
      refine ⟨_, rfl, a, _, 2, _, rfl, rfl, L1, atI_nat (j := 2) rfl, rfl, _, rfl, ?_⟩
      refine ite2 (fun e1 => ?_) (fun e1 => ?_)
      · refine ⟨_, rfl, a, _, 1, _, rfl, rfl, L1, atI_nat (j := 1) rfl, _, rfl, a, _, 0, _, rfl, rfl, L1, atI_nat (j := 0) rfl, l, _, rfl, .inl (.inl (.inl h2)), p, _, rfl, rfl, _, rfl, ?_⟩
        refine ite2 (fun e2 => ?_) (fun e2 => ?_)
        · have e3 : p < ((cells.map V.int).length : Int) := of_decide_eq_true e2
          rw [List.length_map] at e3
          have hp : p.toNat < cells.length := by omega
          have g : (cells.map V.int)[p.toNat]? = some (.int cells[p.toNat]) := by
            rw [List.getElem?_map, List.getElem?_eq_getElem hp]
            rfl
          have gc : 0 ≤ cells[p.toNat] := pos _ (List.getElem_mem hp)
          generalize cells[p.toNat] = ce at g gc
          have ep : p = ((p.toNat : Nat) : Int) := by omega
          have H1a : HandL (upd H a (.lst [.ref l, .int (p + 1), .int c, .int r])) a l := HandL.put h2 ne (by omega) c0 hl pos
          refine ⟨_, rfl, a, _, 0, _, rfl, rfl, L1, atI_nat (j := 0) rfl, _, rfl, a, _, 1, _, rfl, rfl, L1, atI_nat (j := 1) rfl, l, _, p, _, rfl, rfl, .inl (.inl h2), at_of ep g, ?_⟩
          refine ⟨_, rfl, a, _, 1, _, rfl, rfl, L1, atI_nat (j := 1) rfl, p, 1, rfl, rfl, _, rfl, a, _, 1, 1, rfl, rfl, h1, rfl, ?_⟩
          have L2 : SqL K (upd H a (.lst [.ref l, .int (p + 1), .int c, .int r])) a [.ref l, .int (p + 1), .int c, .int r] := .inl (.inl upd_same)
          refine ⟨_, rfl, 10, 18, rfl, rfl, ⟨by decide, by decide, by decide⟩, ce, _, rfl, rfl, _, rfl, ite2 (fun e4 => ?_) (fun e4 => ?_)⟩
          · refine ⟨_, rfl, .inl ⟨ce, rfl, ce, 2147483647, rfl, rfl, (by show (0 : Int) < 2147483647; decide), _, rfl, a, _, 1, _, rfl, rfl, L2, atI_nat (j := 1) rfl, _, _, rfl, fun v => .inl ⟨v, rfl, _, rfl, v, many, rfl, rfl, m0, ?_⟩⟩⟩
            exact fin v _ H1a (Keep.put _ _ _)
          · refine ⟨_, rfl, _, rfl, a, _, 2, 2, rfl, rfl, upd_same, rfl, some (.int ce), none, rfl, ?_, (Keep.put _ _ _).trans (Keep.put _ _ _)⟩
            exact HandL.put (H := upd H a (.lst [.ref l, .int (p + 1), .int c, .int r])) ((upd_ne ne).trans h2) ne (by omega) gc hl pos
        · exact ⟨none, none, rfl, hand, Keep.refl _ _⟩
      · exact ite2 (fun e2 => absurd e2 (by decide)) fun _ => ⟨none, none, rfl, hand, Keep.refl _ _⟩
    · -- behind it
      rintro σ H1 ⟨y2, y3, rfl, ha1, kp⟩
      obtain ⟨cells, p, c, r, h1, h2, ne, p0, c0, hl, pos⟩ := ha1
      have L1 : SqL K H1 a [.ref l, .int p, .int c, .int r] := .inl (.inl h1)
      refine ⟨_, rfl, a, _, 2, _, rfl, rfl, L1, atI_nat (j := 2) rfl, c, 0, rfl, rfl, _, rfl, ite2 (fun e1 => ?_) (fun e1 => ?_)⟩
      · refine ⟨_, rfl, a, _, 2, _, rfl, rfl, L1, atI_nat (j := 2) rfl, _, rfl, _, rfl, c, many, rfl, rfl, ⟨m0, m1⟩, _, rfl, a, _, 2, 2, rfl, rfl, h1, rfl, _, rfl, .inl ⟨c, rfl, _, rfl, c, many, rfl, rfl, m0, ?_⟩⟩
        exact fin c _ (HandL.put h2 ne p0 (Int.ediv_nonneg c0 (by omega)) hl pos) (kp.trans (Keep.put _ _ _))
      · refine ⟨_, rfl, a, _, 3, _, rfl, rfl, L1, atI_nat (j := 3) rfl, r, 1, rfl, rfl, .inl ⟨_, rfl, _, 2147483629, rfl, rfl, (by show (0 : Int) < 2147483629; decide), _, rfl, a, _, 3, 3, rfl, rfl, h1, rfl, ?_⟩⟩
        have L2 : SqL K (upd H1 a (.lst [.ref l, .int p, .int c, .int ((r + 1) % 2147483629)])) a [.ref l, .int p, .int c, .int ((r + 1) % 2147483629)] := .inl (.inl upd_same)
        refine ⟨_, rfl, a, _, 3, _, rfl, rfl, L2, atI_nat (j := 3) rfl, _, rfl, a, _, 1, _, rfl, rfl, L2, atI_nat (j := 1) rfl, _, _, rfl, fun v => .inl ⟨v, rfl, _, rfl, v, many, rfl, rfl, m0, ?_⟩⟩
        exact fin v _ (HandL.put h2 ne p0 c0 hl pos) (kp.trans (Keep.put _ _ _))
theorem ok_draw {f fM : Addr} {fd fdM : FuncData} (B : Blt mg) (F : Fun K "_law_draw" "_law_draw" sDraw f fd) (M : Df K mg "_law_mix" sMix ["_law_number", "_law_turn"] fM fdM) : FnOk P w K mg base CX0 2 f fd ["_law_hand_here", "_law_many"] spDraw :=
  (ok_drawL B F M).imp fun vs H Q E h => by
    obtain ⟨a, many, e, ⟨l, ha⟩, m0, m1, q⟩ := h
    exact ⟨a, many, l, e, ha, m0, m1, fun v H' v0 v1 h' k => q v H' v0 v1 ⟨l, h'⟩ k⟩
/-! ### a pick -/
theorem scPick : FnScope ["_law_hand_here", "_law_things"] ["_law_hand_here", "_law_things"] (defScope sPick) := ⟨rfl, rfl, rfl, by decide +kernel, rfl, by decide +kernel, by decide +kernel⟩
theorem ok_pick {f fD : Addr} {fd fdD : FuncData} (B : Blt mg) (F : Fun K "_law_pick" "_law_pick" sPick f fd) (D : Df K mg "_law_draw" sDraw ["_law_hand_here", "_law_many"] fD fdD) (GD : FnOk P w K mg base CX0 2 fD fdD ["_law_hand_here", "_law_many"] spDraw) :
    FnOk P w K mg base CX0 3 f fd ["_law_hand_here", "_law_things"] (spPick K) := by
  refine F.ok scPick (fun vs H Q E h => ?_) (fun cdv A outer s H vs Q E hr h => ?_)
  · obtain ⟨a, t, xs, rfl, _⟩ := h
    rfl
  · refine ⟨_, pss_one (ps_ret (pe_ix ix_list (pv 1) (pe_call GD hr (by rfl) D.g D.F.kp D.b .nil pass0 (pa_cons (pv 0) (pa_cons (pe_callB call_len_seq (by rfl) B.len bLen (pa_cons (pv 1) pa_nil)) pa_nil))) (fun _ _ => rfl))), ?_⟩
    obtain ⟨a, t, xs, rfl, ha, ht, ne, l0, l1, q⟩ := h
    refine ⟨_, rfl, _, rfl, _, rfl, t, xs, rfl, .inl (.inl (.inl ht)), a, _, rfl, ha, by omega, by omega, fun v H' v0 v1 ha' kp => ?_⟩
    have hv : v.toNat < xs.length := by omega
    exact ⟨t, xs, v, _, rfl, rfl, .inl (.inl (kp _ _ ne ht)), at_of (j := v.toNat) (by omega) (List.getElem?_eq_getElem hv), q _ _ H' (List.getElem?_eq_getElem hv) ha' kp⟩
/-! ### odd things -/
theorem scOddP : FnScope ["_law_hand_here"] ["_law_hand_here"] (defScope sOddP) := ⟨rfl, rfl, rfl, by decide +kernel, rfl, by decide +kernel, by decide +kernel⟩
theorem scOddN : FnScope ["_law_hand_here", "_law_most"] ["_law_hand_here", "_law_most"] (defScope sOddN) := ⟨rfl, rfl, rfl, by decide +kernel, rfl, by decide +kernel, by decide +kernel⟩
theorem keep2 {H H1 H' : Hp} {h : Addr} (s : Same H H1) (k : Keep h H1 H') : Keep h H H' := (Same.keep s).trans k
theorem ok_oddp {f fP : Addr} {fd fdP : FuncData} (F : Fun K "_law_odd_people" "_law_odd_people" sOddP f fd) (D : Df K mg "_law_pick" sPick ["_law_hand_here", "_law_things"] fP fdP) (GP : FnOk P w K mg base CX0 3 fP fdP ["_law_hand_here", "_law_things"] (spPick K)) :
    FnOk P w K mg base CX0 4 f fd ["_law_hand_here"] spOddP := by
  refine F.ok scOddP (fun vs H Q E h => ?_) (fun cdv A outer s H vs Q E hr h => ?_)
  · obtain ⟨a, rfl, _⟩ := h
    rfl
  · refine ⟨_, pss_one (ps_ret (pe_call GP hr (by rfl) D.g D.F.kp D.b .nil pass0 (pa_cons (pv 0) (pa_cons (pe_lst (pa_cons pe_int (pa_cons pe_int (pa_cons pe_int (pa_cons (pe_un un_neg pe_int) (pa_cons pe_non (pa_cons pe_bl (pa_cons pe_str
      (pa_cons (pe_tup (pa_cons pe_int pa_nil)) (pa_cons (pe_op op_pow pe_int pe_int) pa_nil)))))))))) pa_nil)))), ?_⟩
    obtain ⟨a, rfl, ha, q⟩ := h
    refine ⟨_, rfl, 2, rfl, (by show 1 ≤ sizeLine; decide), fun T nT => ⟨10, 20, rfl, rfl, ⟨by decide, by decide, by decide⟩, (by show 9 ≤ sizeLine; decide), fun t nt => ?_⟩⟩
    have s1 : Same H (upd H T (.tup [.int 2])) := same_upd nT
    have s2 : Same (upd H T (.tup [.int 2])) (upd (upd H T (.tup [.int 2])) t (.lst [.int 1, .int 0, .int 6, .int (-2), .non, .bl true, .str "2", .ref T, .int (10 ^ (20 : Int).toNat)])) := same_upd nt
    have ha2 := ha.same (s1.trans s2)
    have neT : T ≠ t := fun e => by rw [← e, upd_same] at nt; cases nt
    obtain ⟨xs, eh⟩ := (ha.same s1).there
    refine ⟨a, t, _, rfl, ha2, upd_same, (ne_of_none eh nt).symm, (by show 0 < 9; decide), (by show 9 ≤ 1000; decide), fun i v H' hv ha' kp => ?_⟩
    refine q v H' ?_ ha' (keep2 (s1.trans s2) kp)
    have hT : H' T = some (.tup [.int 2]) := kp T _ (tup_ne ha2 (by rw [upd_ne neT, upd_same])) (by rw [upd_ne neT, upd_same])
    have mem := List.mem_of_getElem? hv
    simp only [List.mem_cons, List.not_mem_nil, or_false] at mem
    rcases mem with rfl | rfl | rfl | rfl | rfl | rfl | rfl | rfl | rfl
    · exact .inr ⟨1, rfl, by decide⟩
    · exact .inr ⟨0, rfl, by decide⟩
    · exact .inr ⟨6, rfl, by decide⟩
    · exact .inr ⟨-2, rfl, by decide⟩
    · exact .inl (.inl rfl)
    · exact .inl (.inr (.inl ⟨_, rfl⟩))
    · exact .inl (.inr (.inr (.inl ⟨_, rfl⟩)))
    · exact .inl (.inr (.inr (.inr ⟨T, _, rfl, hT⟩)))
    · exact .inr ⟨_, rfl, by decide⟩
theorem ok_oddn {f fP : Addr} {fd fdP : FuncData} (F : Fun K "_law_odd_number" "_law_odd_number" sOddN f fd) (D : Df K mg "_law_pick" sPick ["_law_hand_here", "_law_things"] fP fdP) (GP : FnOk P w K mg base CX0 3 fP fdP ["_law_hand_here", "_law_things"] (spPick K)) :
    FnOk P w K mg base CX0 4 f fd ["_law_hand_here", "_law_most"] spOddN := by
  refine F.ok scOddN (fun vs H Q E h => ?_) (fun cdv A outer s H vs Q E hr h => ?_)
  · obtain ⟨a, most, rfl, _⟩ := h
    rfl
  · refine ⟨_, pss_one (ps_ret (pe_call GP hr (by rfl) D.g D.F.kp D.b .nil pass0 (pa_cons (pv 0) (pa_cons (pe_lst (pa_cons (pe_un un_neg pe_int) (pa_cons (pe_op op_add (pv 1) pe_int) (pa_cons pe_non (pa_cons pe_bl (pa_cons pe_bl (pa_cons pe_str
      (pa_cons (pe_tup (pa_cons pe_int pa_nil)) (pa_cons (pe_un un_neg (pe_op op_pow pe_int pe_int)) (pa_cons (pe_op op_add (pv 1) (pe_op op_pow pe_int pe_int)) pa_nil)))))))))) pa_nil)))), ?_⟩
    obtain ⟨a, most, rfl, ha, m0, m1, q⟩ := h
    refine ⟨_, rfl, 1, rfl, _, rfl, most, 1, rfl, rfl, (by show 1 ≤ sizeLine; decide), fun T nT => ⟨10, 20, rfl, rfl, ⟨by decide, by decide, by decide⟩, _, rfl, _, rfl, 10, 9, rfl, rfl, ⟨by decide, by decide, by decide⟩, most, _, rfl, rfl, (by show 9 ≤ sizeLine; decide), fun t nt => ?_⟩⟩
    have s1 : Same H (upd H T (.tup [.int 1])) := same_upd nT
    have s2 : Same (upd H T (.tup [.int 1])) (upd (upd H T (.tup [.int 1])) t (.lst [.int (-1), .int (most + 1), .non, .bl true, .bl false, .str "1", .ref T, .int (-(10 ^ (20 : Int).toNat)), .int (most + 10 ^ (9 : Int).toNat)])) := same_upd nt
    have ha2 := ha.same (s1.trans s2)
    have neT : T ≠ t := fun e => by rw [← e, upd_same] at nt; cases nt
    obtain ⟨xs, eh⟩ := (ha.same s1).there
    refine ⟨a, t, _, rfl, ha2, upd_same, (ne_of_none eh nt).symm, (by show 0 < 9; decide), (by show 9 ≤ 1000; decide), fun i v H' hv ha' kp => ?_⟩
    refine q v H' ?_ ha' (keep2 (s1.trans s2) kp)
    have hT : H' T = some (.tup [.int 1]) := kp T _ (tup_ne ha2 (by rw [upd_ne neT, upd_same])) (by rw [upd_ne neT, upd_same])
    have mem := List.mem_of_getElem? hv
    have e20 : (10 : Int) ^ (20 : Int).toNat = 100000000000000000000 := by decide
    have e9 : (10 : Int) ^ (9 : Int).toNat = 1000000000 := by decide
    simp only [List.mem_cons, List.not_mem_nil, or_false] at mem
    rcases mem with rfl | rfl | rfl | rfl | rfl | rfl | rfl | rfl | rfl
    · exact .inr ⟨-1, rfl, by omega⟩
    · exact .inr ⟨most + 1, rfl, by omega⟩
    · exact .inl (.inl rfl)
    · exact .inl (.inr (.inl ⟨_, rfl⟩))
    · exact .inl (.inr (.inl ⟨_, rfl⟩))
    · exact .inl (.inr (.inr (.inl ⟨_, rfl⟩)))
    · exact .inl (.inr (.inr (.inr ⟨T, _, rfl, hT⟩)))
    · exact .inr ⟨_, rfl, by omega⟩
    · exact .inr ⟨_, rfl, by omega⟩
end
end L2.K
namespace L2.K
open PySem PySem.Spec PyProof.Rows
theorem dp_ints {K : PySem.W.Frag} {H : Hp} : ∀ ns : List Int, DpAll K H (ns.map V.int) (ns.map PyData.int)
  | [] => .nil
  | n :: ns => .cons (.int n) (dp_ints ns)
theorem get_int {ns : List Int} {i : Nat} {x : V} (h : (ns.map V.int)[i]? = some x) : ∃ z, ns[i]? = some z ∧ x = .int z := by
  rw [List.getElem?_map] at h
  cases e : ns[i]? with
  | none => rw [e] at h; cases h
  | some z => rw [e] at h; exact ⟨z, rfl, (Option.some.inj h).symm⟩
section
variable {P : Program} {w : World} {K : PySem.W.Frag} {mg : Str → Option Value} {base : Heap}
theorem scLW : FnScope ["_law_thing"] ["_law_thing"] (defScope sLW) := ⟨rfl, rfl, rfl, by decide +kernel, rfl, by decide +kernel, by decide +kernel⟩
theorem ok_lw {f : Addr} {fd : FuncData} (B : Blt mg) (F : Fun K "_law_is_whole" "_law_is_whole" sLW f fd) : FnOk P w K mg base CX0 1 f fd ["_law_thing"] spLW := by
  refine F.ok scLW (fun vs H Q E h => ?_) (fun cdv A outer s H vs Q E hr h => ?_)
  · obtain ⟨i, rfl, _⟩ := h
    rfl
  · refine ⟨_, pss_one (ps_ret (pe_and (pe_callB call_isi (by rfl) B.isi bIsi (pa_cons (pv 0) (pa_cons (pe_bltn (v := .ty "int") (by rfl) B.int bInt rfl) pa_nil)))
      (pe_one (pe_not (pe_callB call_isi (by rfl) B.isi bIsi (pa_cons (pv 0) (pa_cons (pe_bltn (v := .ty "bool") (by rfl) B.bool bBool rfl) pa_nil))))))), ?_⟩
    obtain ⟨i, rfl, q⟩ := h
    refine ⟨_, rfl, _, _, _, _, true, rfl, .ty "int", .base (.int i), kit_ty (by decide +kernel), true, rfl, iteT ?_⟩
    exact ⟨_, rfl, _, _, _, _, false, rfl, .ty "bool", .base (.int i), kit_ty (by decide +kernel), false, rfl, q⟩
/-! ### is it coins -/
theorem scCoins : FnScope ["_law_thing", "_law_coin"] ["_law_thing"] (defScope sCoins) := ⟨rfl, rfl, rfl, by decide +kernel, rfl, by decide +kernel, by decide +kernel⟩
theorem ok_coins {f fL : Addr} {fd fdL : FuncData} (B : Blt mg) (F : Fun K "_law_is_coins" "_law_is_coins" sCoins f fd) (L : Df K mg "_law_is_whole" sLW ["_law_thing"] fL fdL) : FnOk P w K mg base CX0 2 f fd ["_law_thing"] spCoins := by
  have GL : FnOk P w K mg base CX0 1 fL fdL ["_law_thing"] spLW := ok_lw B L.F
  refine F.ok scCoins (fun vs H Q E h => ?_) (fun cdv A outer s H vs Q E hr h => ?_)
  · obtain ⟨a, ys, rfl, _⟩ := h
    rfl
  · refine ⟨_, pss_cons (ps_if (pw_or (pt_not (pt_val (pe_callB call_isi (by rfl) B.isi bIsi (pa_cons (pv 0) (pa_cons (pe_bltn (v := .ty "tuple") (by rfl) B.tup bTup rfl) pa_nil)))))
          (pw_or1 (pt_cmpR (op_neD hr.units) (pe_lc (own := [("_law_coin", 1)]) (g := gName 1) rfl scCoins.nd (pi_tup (pv 0)) (blkOk_by (N := ["_law_thing", "_law_coin"]) (sc := defScope sCoins) (by decide +kernel))
              (fun _ _ _ _ _ => pg_name (i := 1) scCoins.nd rfl (.inl rfl))
              (fun _ _ _ _ _ => pts_one (pw_or (pt_not (pt_val (pe_call GL hr (by rfl) L.g L.F.kp L.b .nil pass0 (pa_cons (pv 1) pa_nil)))) (pw_or1 (pt_cmpR op_lt (pv 1) pe_int (nomark _)))).pt)
              (fun _ _ _ _ _ => pv 1)) (pe_lst pa_nil) (nomark _)))).pt (pss_one (ps_ret pe_bl)) pss_nil)
      (pss_one (ps_ret (pe_cmpR (op_eqD hr.units) (pe_callTy call_list_of (by rfl) B.lst bList (pa_cons (pv 0) pa_nil)) (pe_callB cr_sortedI (by rfl) B.srt bSrt (pa_cons (pe_callTy call_list_of (by rfl) B.lst bList (pa_cons (pv 0) pa_nil)) pa_nil)) (nomark _)))), ?_⟩
    obtain ⟨a, ys, rfl, ha, hl, pos, hw, q⟩ := h
    refine ⟨_, rfl, _, _, _, _, true, rfl, .ty "tuple", .base (.tup ha), kit_ty (by decide +kernel), true, rfl, iteF ?_⟩
    refine ⟨_, rfl, a, rfl, ⟨_, .inl (.inl ha)⟩, fun D nD => lc_tup (K := K) (a := a) (xs := ys.map V.int) (fun i H2 => H2 D = some (.lst []) ∧ Same H H2) ⟨upd_same, same_upd nD⟩ (fun i H2 _ z => .inl (.inl (z.2 _ _ ha))) ?_ ?_⟩
    · rintro i x H2 hx ⟨eD, s2⟩
      obtain ⟨z, hz, rfl⟩ := get_int hx
      have pz : 1 ≤ z := pos z (List.mem_of_getElem? hz)
      refine ⟨rfl, ?_⟩
      refine ⟨_, rfl, z, rfl, true, rfl, iteF ?_⟩
      refine ⟨_, rfl, z, 1, rfl, rfl, _, rfl, ?_⟩
      have e : decide (z < 1) = false := decide_eq_false (by omega)
      rw [e]
      exact iteF ⟨eD, s2⟩
    · rintro H2 ⟨eD, s2⟩
      refine ⟨Nat.zero_le _, fun p np => ⟨.list [], .list [], .lst (.inl (.inl ((upd_ne (ne_of_none eD np)).trans eD))) .nil, .lst (.inl (.inl upd_same)) .nil, by decide +kernel, by decide +kernel, false, by rfl, iteF ?_⟩⟩
      have s3 : Same H (upd H2 p (.lst [])) := s2.trans (same_upd np)
      refine ⟨_, rfl, a, _, rfl, .inr (.inl (.inl (s3 _ _ ha))), fun u nu => ?_⟩
      have s4 := s3.trans (same_upd (o := .lst (ys.map V.int)) nu)
      refine ⟨_, rfl, a, _, rfl, .inr (.inl (.inl (s4 _ _ ha))), fun v nv => ?_⟩
      have s5 := same_upd (o := .lst (ys.map V.int)) nv
      refine ⟨v, ys, rfl, .inl (.inl upd_same), fun zs r hp hz nr => ?_⟩
      have s6 := same_upd (o := .lst (zs.map V.int)) nr
      obtain rfl : zs = ys := PySem.W.ksm_same hp hz hw
      refine ⟨.list (zs.map PyData.int), .list (zs.map PyData.int), .lst (.inl (.inl (s6 _ _ (s5 _ _ upd_same)))) (dp_ints zs), .lst (.inl (.inl upd_same)) (dp_ints zs), PySem.W.ke_shaped_ints zs, PySem.W.ke_shaped_ints zs, ?_⟩
      rw [SeqAt.eqv_refl _ (SeqAt.canLay_of_shaped (PySem.W.ke_shaped_ints zs))]
      exact q _ (s4.trans (s5.trans s6))
/-! ### does it serve -/
theorem scServ : FnScope ["_law_coins", "_law_people", "_law_reached", "_law_coin"] ["_law_coins", "_law_people"] (defScope sServ) := ⟨rfl, rfl, rfl, by decide +kernel, rfl, by decide +kernel, by decide +kernel⟩
theorem ok_serv {f fU : Addr} {fd fdU : FuncData} (B : Blt mg) (F : Fun K "_law_serves" "_law_serves" sServ f fd) (U : Df K mg "_law_up" sUp ["_law_total", "_law_people"] fU fdU) : FnOk P w K mg base CX0 2 f fd ["_law_coins", "_law_people"] spServ := by
  have GU : FnOk P w K mg base CX0 1 fU fdU ["_law_total", "_law_people"] spUp := ok_up U.F
  refine F.ok scServ (fun vs H Q E h => ?_) (fun cdv A outer s H vs Q E hr h => ?_)
  · obtain ⟨a, ys, m, n, S, rfl, _⟩ := h
    rfl
  · refine ⟨_, pss_cons (ps_set (i := 2) scServ.nd rfl (.inl rfl) pe_int)
      (pss_cons (ps_for PassesOwn.never rfl (pi_list (pe_callB cr_sortedI (by rfl) B.srt bSrt (pa_cons (pe_callTy call_list_of (by rfl) B.lst bList (pa_cons (pv 0) pa_nil)) pa_nil))) (pg_name (i := 3) scServ.nd rfl (.inl rfl))
        (pss_cons (ps_set (i := 2) scServ.nd rfl (.inl rfl) (pe_op op_add (pv 2) (pv 3)))
        (pss_one (ps_if (pt_cmpR op_gt (pv 3) (pe_call GU hr (by rfl) U.g U.F.kp U.b .nil pass0 (pa_cons (pv 2) (pa_cons (pv 1) pa_nil))) (nomark _)) (pss_one (ps_ret pe_bl)) pss_nil))))
      (pss_one (ps_ret pe_bl))), ?_⟩
    obtain ⟨a, ys, m, n, S, rfl, ha, hm2, hm5, ⟨l, ins, hp, hw, hS, hn⟩, q⟩ := h
    refine ⟨_, rfl, a, _, rfl, .inr (.inl (.inl ha)), fun u nu => ?_⟩
    have s1 := same_upd (o := .lst (ys.map V.int)) nu
    refine ⟨u, ys, rfl, .inl (.inl upd_same), fun zs r hq hz nr => ?_⟩
    have s2 := s1.trans (same_upd (o := .lst (zs.map V.int)) nr)
    refine ⟨r, rfl, ⟨_, .inl (.inl upd_same)⟩, for_list (K := K) (a := r) (xs := zs.map V.int) (fun i σ H1 => (∃ y, σ = [some (.ref a), some (.int m), some (.int (zs.take i).sum), y]) ∧ Same H H1 ∧ H1 r = some (.lst (zs.map V.int)))
      ⟨⟨none, rfl⟩, s2, upd_same⟩ (fun i σ H1 _ z => .inl (.inl z.2.2)) ?_ ?_⟩
    · rintro i x σ H1 hx ⟨⟨y, rfl⟩, sm, er⟩
      obtain ⟨c, hc, rfl⟩ := get_int hx
      have hi : i < zs.length := (List.getElem?_eq_some_iff.mp hc).1
      have ec : zs[i] = c := (List.getElem?_eq_some_iff.mp hc).2
      have split : zs = zs.take i ++ c :: zs.drop (i + 1) := by rw [← ec, List.getElem_cons_drop, List.take_append_drop]
      have key := K18.serves_at hm2 hm5 ins (hq.trans hp) hz split
      refine ⟨_, rfl, _, rfl, _, c, rfl, rfl, _, rfl, _, rfl, _, rfl, _, m, rfl, hm2, hm5, c, _, rfl, rfl, _, rfl, ?_⟩
      have e : decide (((zs.take i).sum + c + m - 1) / m < c) = false := decide_eq_false (by omega)
      rw [e]
      refine iteF ⟨⟨some (.int c), ?_⟩, sm, er⟩
      rw [sum_take hc]
      rfl
    · rintro σ H1 ⟨⟨y, rfl⟩, sm, er⟩
      exact q H1 sm
end
end L2.K
namespace L2.K
open PySem PySem.Spec PyProof.Rows
section
variable {P : Program} {w : World} {K : PySem.W.Frag} {mg : Str → Option Value} {base : Heap}
/-! ### a pool is right -/
theorem scRight : FnScope ["_law_count", "_law_total", "_law_people", "_law_told_here", "_law_high"] ["_law_count", "_law_total", "_law_people"] (defScope sRight) := ⟨rfl, rfl, rfl, by decide +kernel, rfl, by decide +kernel, by decide +kernel⟩
theorem ok_right {f fP fG fC fS fL cP cC cT cN fI fE : Addr} {fd fdP fdG fdC fdS fdL fdI fdE : FuncData} (B : Blt mg) (F : Fun K "_law_right" "_law_right" sRight f fd)
    (Pf : Df K mg "pool_for" sPF ["count", "total", "people"] fP fdP) (GP : FnOk P w K mg base (L2.CX P w) 4 fP fdP ["count", "total", "people"] (spPF cP cC cT cN))
    (Gr : Df K mg "_law_great" sGreat ["_law_count", "_law_people"] fG fdG) (GG : FnOk P w K mg base CX0 2 fG fdG ["_law_count", "_law_people"] spGreat)
    (Co : Df K mg "_law_is_coins" sCoins ["_law_thing"] fC fdC) (GC : FnOk P w K mg base CX0 2 fC fdC ["_law_thing"] spCoins)
    (Se : Df K mg "_law_serves" sServ ["_law_coins", "_law_people"] fS fdS) (GS : FnOk P w K mg base CX0 2 fS fdS ["_law_coins", "_law_people"] spServ)
    (Lw : Df K mg "_law_is_whole" sLW ["_law_thing"] fL fdL) (GL : FnOk P w K mg base CX0 1 fL fdL ["_law_thing"] spLW)
    (Z : NpC K mg cN fI fE fdI fdE) (GI : FnOk P w K mg base CX0 1 fI fdI ["self", "low", "high"] (spNI cN)) (GE : FnOk P w K mg base CX0 1 fE fdE ["self", "other"] (spNE cN)) :
    FnOk P w K mg base CX0 5 f fd ["_law_count", "_law_total", "_law_people"] spRight := by
  refine F.ok scRight (fun vs H Q E h => ?_) (fun cdv A outer s H vs Q E hr h => ?_)
  · obtain ⟨n, S, m, rfl, _⟩ := h
    rfl
  · have hr1 : Room 1 (A.deeper (envOfC "_law_right" (defScope sRight) s.heap.objs.size f cdv)) := hr.mono (by decide)
    have hr2 : Room 2 (A.deeper (envOfC "_law_right" (defScope sRight) s.heap.objs.size f cdv)) := hr.mono (by decide)
    refine ⟨_, pss_cons (ps_set (i := 3) scRight.nd rfl (.inl rfl) (pe_call GP hr (by rfl) Pf.g Pf.F.kp Pf.b .nil (by exact passL) (pa_cons (pv 0) (pa_cons (pv 1) (pa_cons (pv 2) pa_nil)))))
      (pss_cons (ps_set (i := 4) scRight.nd rfl (.inl rfl) (pe_call GG hr2 (by rfl) Gr.g Gr.F.kp Gr.b .nil pass0 (pa_cons (pv 0) (pa_cons (pv 2) pa_nil))))
      (pss_cons (ps_if (pt_chain op_le op_le (pv 0) (pv 1) (pv 4))
        (pss_cons (ps_if (pw_or (pt_not (pt_val (pe_call GC hr2 (by rfl) Co.g Co.F.kp Co.b .nil pass0 (pa_cons (pv 3) pa_nil))))
            (pw_or (pt_cmpR op_ne (pe_callB call_len_seq (by rfl) B.len bLen (pa_cons (pv 3) pa_nil)) (pv 0) (nomark _))
              (pw_or1 (pt_cmpR op_ne (pe_callB (R18.call_sumT rfl) (by rfl) B.sum bSum (pa_cons (pv 3) pa_nil)) (pv 1) (nomark _))))).pt (pss_one (ps_ret pe_bl)) pss_nil)
        (pss_one (ps_ret (pe_call GS hr2 (by rfl) Se.g Se.F.kp Se.b .nil pass0 (pa_cons (pv 3) (pa_cons (pv 2) pa_nil)))))) pss_nil)
      (pss_cons (ps_if (pw_or (pt_not (pt_val (pe_callB call_isi (by rfl) B.isi bIsi (pa_cons (pv 3) (pa_cons (pe_glob (v := .ref cN) (by rfl) Z.g rfl) pa_nil)))))
            (pw_or (pt_not (pt_val (pe_call GL hr1 (by rfl) Lw.g Lw.F.kp Lw.b .nil pass0 (pa_cons (pe_fld (pv 3) rfl) pa_nil))))
              (pw_or1 (pt_not (pt_val (pe_call GL hr1 (by rfl) Lw.g Lw.F.kp Lw.b .nil pass0 (pa_cons (pe_fld (pv 3) rfl) pa_nil))))))).pt (pss_one (ps_ret pe_bl)) pss_nil)
      (pss_one (ps_ret (pe_and (pe_cmpR op_eq (pe_fld (pv 3) rfl) (pv 0) (nomark _)) (pe_and (pe_cmpR op_eq (pe_fld (pv 3) rfl) (pv 4) (nomark _))
        (pe_one (pe_cmpR (R18.op_eqO Z.eq GE hr1 Z.bE pass0) (pv 3) (pe_make Z.make GI hr2 (by rfl) Z.g Z.bI .nil pass0 (pa_cons (pv 0) (pa_cons (pv 4) pa_nil))) (nomark _)))))))))), ?_⟩
    obtain ⟨n, S, m, rfl, hn, hS0, hS9, hm2, hm5, q⟩ := h
    by_cases c : (n : Int) ≤ S ∧ S ≤ K18.rise m 0 n
    · refine ⟨_, rfl, _, rfl, _, rfl, .int n, .int S, .int m, rfl, .inl ⟨n, S, m, rfl, rfl, rfl, hn, hS0, hS9, hm2, hm5, fun _ ys a H1 s1 na ea good => ?_, fun z => absurd c z⟩⟩
      obtain ⟨l, ins, hp, hw, hS, hl⟩ := id good
      have posY : ∀ y ∈ ys, 1 ≤ y := fun y hy => K18.ins_pos ins y (hp.mem_iff.mp hy)
      have lenY : ys.length = n := hp.length_eq.trans hl
      have sumY : ys.sum = S := (K18.sum_perm hp).trans hS
      refine ⟨_, rfl, _, rfl, n, m, rfl, hn, hm2, hm5, ?_⟩
      refine ⟨_, rfl, _, rfl, n, S, rfl, rfl, true, congrArg V.bl (decide_eq_true c.1), iteT ⟨_, rfl, S, _, rfl, rfl, true, congrArg V.bl (decide_eq_true c.2), iteT ?_⟩⟩
      refine ⟨_, rfl, a, ys, rfl, ea, by omega, posY, hw, fun H2 s2 => ⟨true, rfl, iteF ?_⟩⟩
      refine ⟨_, rfl, a, _, rfl, .inr (.inl (.inl (s2 _ _ ea))), _, rfl, rfl, false, ?_, iteF ?_⟩
      · have e : ((ys.map V.int).length : Int) = n := by rw [List.length_map, lenY]
        rw [e, decide_eq_true rfl]
        rfl
      · refine ⟨_, rfl, a, ys, rfl, .inl (.inl (s2 _ _ ea)), _, rfl, rfl, false, ?_, iteF ?_⟩
        · rw [sumY, decide_eq_true rfl]
          rfl
        · exact ⟨_, rfl, _, rfl, a, ys, m, n, S, rfl, s2 _ _ ea, hm2, hm5, good, fun H3 s3 => q H3 (s1.trans (s2.trans s3))⟩
    · refine ⟨_, rfl, _, rfl, _, rfl, .int n, .int S, .int m, rfl, .inl ⟨n, S, m, rfl, rfl, rfl, hn, hS0, hS9, hm2, hm5, fun z => absurd z c, fun _ a dx H1 s1 na ea => ?_⟩⟩
      refine ⟨_, rfl, _, rfl, n, m, rfl, hn, hm2, hm5, ?_⟩
      have out : ∀ (u : Prop) (v : Prop), v → (∃ k, V.bl (decide ((n : Int) ≤ S)) = .bl k ∧ if k = true then (∃ x : V, (.some (.some (V.int (K18.rise m 0 n)))) = (some (some x)) ∧ ∃ i j, V.int S = .int i ∧ x = .int j ∧ ∃ k, V.bl (decide (i ≤ j)) = .bl k ∧ if k = true then u else v) else ∃ k, V.bl false = .bl k ∧ if k = true then u else v) := fun u v hv => by
        by_cases c1 : (n : Int) ≤ S
        · refine ⟨true, congrArg V.bl (decide_eq_true c1), iteT ⟨_, rfl, S, _, rfl, rfl, false, congrArg V.bl (decide_eq_false fun z => c ⟨c1, z⟩), iteF hv⟩⟩
        · exact ⟨false, congrArg V.bl (decide_eq_false c1), iteF ⟨false, rfl, iteF hv⟩⟩
      refine ⟨_, rfl, _, rfl, n, S, rfl, rfl, out _ _ ?_⟩
      refine ⟨_, rfl, _, _, _, _, true, rfl, .own cN, Z.ty ea, Z.own, true, rfl, iteF ?_⟩
      refine ⟨_, rfl, a, cN, dx, _, _, rfl, ea, Z.cl, Z.nL, nf_low _ _, _, rfl, true, rfl, iteF ?_⟩
      refine ⟨_, rfl, a, cN, dx, _, _, rfl, ea, Z.cl, Z.nH, nf_high _ _, _, rfl, true, rfl, iteF ?_⟩
      refine ⟨_, rfl, a, cN, dx, _, _, rfl, ea, Z.cl, Z.nL, nf_low _ _, _, rfl, rfl, true, congrArg V.bl (decide_eq_true rfl), iteT ?_⟩
      refine ⟨_, rfl, a, cN, dx, _, _, rfl, ea, Z.cl, Z.nH, nf_high _ _, _, rfl, rfl, true, congrArg V.bl (decide_eq_true rfl), iteT ?_⟩
      refine ⟨_, rfl, _, rfl, _, rfl, fun x ex nx nex ne => ⟨x, ex, n, K18.rise m 0 n, rfl, upd_same, fun H2 kp hx => ⟨rfl, ?_⟩⟩⟩
      have s2 : Same H1 H2 := Same.made nx nex kp
      refine ⟨a, dx, _, rfl, s2 _ _ ea, .inl ⟨x, ex, _, rfl, hx⟩, ?_⟩
      refine ⟨a, dx, _, _, .ref x, rfl, s2 _ _ ea, .inl ⟨x, ex, _, _, rfl, hx, true, congrArg V.bl (decide_eq_true ⟨rfl, rfl⟩), ?_⟩⟩
      exact q H2 (s1.trans s2)
end
end L2.K
namespace L2.K
open PySem PySem.Spec PyProof.Rows
theorem xf_most (v : V) : (xf v).lookup ("most" : Str) = some v := by simp [xf, List.lookup]
/-- what of the three error classes the clauses ask -/
structure Errs (K : PySem.W.Frag) (mg : Str → Option Value) (cP cC cT : Addr) : Prop where
  gC : mg "BadCount" = some (.ref cC)
  gT : mg "BadTotal" = some (.ref cT)
  gP : mg "BadPeople" = some (.ref cP)
  fC : XfC K cC
  fT : XfC K cT
  nC : PySem.W.findIn K (.ref cC) "most" = some none
  nT : PySem.W.findIn K (.ref cT) "most" = some none
  cc : PySem.W.exmOne K (.ref cC) (.ref cC) = some true
  tc : PySem.W.exmOne K (.ref cT) (.ref cC) = some false
  tt : PySem.W.exmOne K (.ref cT) (.ref cT) = some true
  pc : PySem.W.exmOne K (.ref cP) (.ref cC) = some false
  pt : PySem.W.exmOne K (.ref cP) (.ref cT) = some false
  pp : PySem.W.exmOne K (.ref cP) (.ref cP) = some true
section
variable {P : Program} {w : World} {K : PySem.W.Frag} {mg : Str → Option Value} {base : Heap}
theorem scTold : FnScope ["_law_count", "_law_total", "_law_people", "e"] ["_law_count", "_law_total", "_law_people"] (defScope sTold) := ⟨rfl, rfl, rfl, by decide +kernel, rfl, by decide +kernel, by decide +kernel⟩
/-- ('..', e.most) -/
def tPair (z : Str) (C : Addr) : R18.Suite := fun a cls d => tRet (tTup (tCons (tC (.str z)) (tCons (tXf a cls d C "most" (tVar 3)) tNil)))
/-- ('people', 0) -/
def tPair0 : R18.Suite := fun _ _ _ => tRet (tTup (tCons (tC (.str "people")) (tCons (tC (.int 0)) tNil)))
theorem ok_told {f fP cP cC cT cN : Addr} {fd fdP : FuncData} (F : Fun K "_law_told" "_law_told" sTold f fd) (Er : Errs K mg cP cC cT)
    (Pf : Df K mg "pool_for" sPF ["count", "total", "people"] fP fdP) (GP : FnOk P w K mg base (L2.CX P w) 4 fP fdP ["count", "total", "people"] (spPF cP cC cT cN)) :
    FnOk P w K mg base CX0 5 f fd ["_law_count", "_law_total", "_law_people"] spTold := by
  refine F.ok scTold (fun vs H Q E h => ?_) (fun cdv A outer s H vs Q E hr h => ?_)
  · obtain ⟨c, t, p, rfl, _⟩ := h
    rfl
  · refine ⟨_, pss_one (R18.ps_try_mix (l := [⟨.ref cC, some 3, tPair "count" cC⟩, ⟨.ref cT, some 3, tPair "total" cT⟩, ⟨.ref cP, none, tPair0⟩]) (Wout := fun _ _ _ _ => False)
        (tb := fun W => tRet (tCallS (spPF cP cC cT cN) (WE W) (tCons (tVar 0) (tCons (tVar 1) (tCons (tVar 2) tNil))))) rfl rfl scTold.nd takes0
        (fun W pn xe tk _ => pss_one (ps_ret (by exact (pe_callS GP hr rfl Pf.g Pf.F.kp Pf.b (fun σ => passAt tk σ) (by exact (pa_cons (pv 0) (pa_cons (pv 1) (pa_cons (pv 2) pa_nil))))))))
        (.named (i := 3) ⟨rfl, by decide, .inl Er.gC⟩ rfl rfl (fun a oe cls d pn hz hf => pss_one (ps_ret (pe_tup (pa_cons pe_str (pa_cons (pe_xf Er.fC Er.nC hz hf (pv 3)) pa_nil)))))
        (.named (i := 3) ⟨rfl, by decide, .inl Er.gT⟩ rfl rfl (fun a oe cls d pn hz hf => pss_one (ps_ret (pe_tup (pa_cons pe_str (pa_cons (pe_xf Er.fT Er.nT hz hf (pv 3)) pa_nil)))))
        (.bare ⟨rfl, by decide, .inl Er.gP⟩ (fun a oe cls d pn hz hf => pss_one (ps_ret (pe_tup (pa_cons pe_str (pa_cons pe_int pa_nil))))) .nil)))), ?_⟩
    obtain ⟨c, t, p, rfl, h⟩ := h
    rcases h with ⟨od, q⟩ | ⟨ft, od, q⟩ | ⟨ft, ft2, od, q⟩
    · refine ⟨_, rfl, _, rfl, _, rfl, c, t, p, rfl, .inr (.inl ⟨od, fun d H1 s1 nd ed => ⟨true, Er.cc, fun _ a na => ?_, (fun z => nomatch z)⟩⟩)⟩
      refine ⟨_, rfl, rfl, rfl, d, _, _, rfl, ed, xf_most _, (by show 2 ≤ sizeLine; decide), fun r nr => ?_⟩
      exact q r _ ⟨s1.trans (same_upd nr), s1.free nr, upd_same⟩
    · refine ⟨_, rfl, _, rfl, _, rfl, c, t, p, rfl, .inr (.inr (.inl ⟨ft, od, fun d H1 s1 nd ed => ⟨false, Er.tc, (fun z => nomatch z), fun _ => ⟨true, Er.tt, fun _ a na => ?_, (fun z => nomatch z)⟩⟩⟩))⟩
      refine ⟨_, rfl, rfl, rfl, d, _, _, rfl, ed, xf_most _, (by show 2 ≤ sizeLine; decide), fun r nr => ?_⟩
      exact q r _ ⟨s1.trans (same_upd nr), s1.free nr, upd_same⟩
    · refine ⟨_, rfl, _, rfl, _, rfl, c, t, p, rfl, .inr (.inr (.inr ⟨ft, ft2, od, fun H1 s1 => ⟨false, Er.pc, (fun z => nomatch z), fun _ => ⟨false, Er.pt, (fun z => nomatch z), fun _ => ⟨true, Er.pp, fun _ a na => ?_, (fun z => nomatch z)⟩⟩⟩⟩))⟩
      refine ⟨(by show 2 ≤ sizeLine; decide), fun r nr => ?_⟩
      exact q r _ ⟨s1.trans (same_upd nr), s1.free nr, upd_same⟩
/-! ### refusals -/
theorem scRefR : FnScope ["_law_hand_here", "_law_people", "_law_count", "_law_total", "_law_odd_count", "_law_odd_total", "_law_odd_people_here"] ["_law_hand_here", "_law_people"] (defScope sRefR) := ⟨rfl, rfl, rfl, by decide +kernel, rfl, by decide +kernel, by decide +kernel⟩
theorem told_data {H H1 : Hp} {a : Addr} {z : Str} {k : Int} (t : Told H H1 a z k) {q : Addr} (nq : H1 q = none) (k' : Int) :
    Dp K (upd H1 q (.tup [.str z, .int k'])) (.ref a) (.tuple [.str z, .int k]) ∧ Dp K (upd H1 q (.tup [.str z, .int k'])) (.ref q) (.tuple [.str z, .int k']) := by
  obtain ⟨_, _, e⟩ := t
  exact ⟨.tup (.inl (.inl ((upd_ne (ne_of_none e nq)).trans e))) (.cons (.str z) (.cons (.int k) .nil)), .tup (.inl (.inl upd_same)) (.cons (.str z) (.cons (.int k') .nil))⟩
theorem ok_refr {f fD fN fO fT : Addr} {fd fdD fdN fdO fdT : FuncData} (F : Fun K "_law_refusals_right" "_law_refusals_right" sRefR f fd)
    (D : Df K mg "_law_draw" sDraw ["_law_hand_here", "_law_many"] fD fdD) (GD : FnOk P w K mg base CX0 2 fD fdD ["_law_hand_here", "_law_many"] spDraw)
    (N : Df K mg "_law_odd_number" sOddN ["_law_hand_here", "_law_most"] fN fdN) (GN : FnOk P w K mg base CX0 4 fN fdN ["_law_hand_here", "_law_most"] spOddN)
    (O : Df K mg "_law_odd_people" sOddP ["_law_hand_here"] fO fdO) (GO : FnOk P w K mg base CX0 4 fO fdO ["_law_hand_here"] spOddP)
    (T : Df K mg "_law_told" sTold ["_law_count", "_law_total", "_law_people"] fT fdT) (GT : FnOk P w K mg base CX0 5 fT fdT ["_law_count", "_law_total", "_law_people"] spTold) :
    FnOk P w K mg base CX0 6 f fd ["_law_hand_here", "_law_people"] spRefR := by
  refine F.ok scRefR (fun vs H Q E h => ?_) (fun cdv A outer s H vs Q E hr h => ?_)
  · obtain ⟨a, m, rfl, _⟩ := h
    rfl
  · have hr2 : Room 2 (A.deeper (envOfC "_law_refusals_right" (defScope sRefR) s.heap.objs.size f cdv)) := hr.mono (by decide)
    have hr4 : Room 4 (A.deeper (envOfC "_law_refusals_right" (defScope sRefR) s.heap.objs.size f cdv)) := hr.mono (by decide)
    refine ⟨_, pss_cons (ps_set (i := 2) scRefR.nd rfl (.inl rfl) (pe_call GD hr2 (by rfl) D.g D.F.kp D.b .nil pass0 (pa_cons (pv 0) (pa_cons pe_int pa_nil))))
      (pss_cons (ps_set (i := 3) scRefR.nd rfl (.inl rfl) (pe_call GD hr2 (by rfl) D.g D.F.kp D.b .nil pass0 (pa_cons (pv 0) (pa_cons pe_int pa_nil))))
      (pss_cons (ps_set (i := 4) scRefR.nd rfl (.inl rfl) (pe_call GN hr4 (by rfl) N.g N.F.kp N.b .nil pass0 (pa_cons (pv 0) (pa_cons pe_int pa_nil))))
      (pss_cons (ps_set (i := 5) scRefR.nd rfl (.inl rfl) (pe_call GN hr4 (by rfl) N.g N.F.kp N.b .nil pass0 (pa_cons (pv 0) (pa_cons (pe_op op_pow pe_int pe_int) pa_nil))))
      (pss_cons (ps_set (i := 6) scRefR.nd rfl (.inl rfl) (pe_call GO hr4 (by rfl) O.g O.F.kp O.b .nil pass0 (pa_cons (pv 0) pa_nil)))
      (pss_cons (ps_if (pw_or (pt_cmpR (op_neD hr.units) (pe_call GT hr (by rfl) T.g T.F.kp T.b .nil pass0 (pa_cons (pv 4) (pa_cons (pv 3) (pa_cons (pv 1) pa_nil)))) (pe_tup (pa_cons pe_str (pa_cons pe_int pa_nil))) (nomark _))
          (pw_or1 (pt_cmpR (op_neD hr.units) (pe_call GT hr (by rfl) T.g T.F.kp T.b .nil pass0 (pa_cons (pv 4) (pa_cons (pv 5) (pa_cons (pv 6) pa_nil)))) (pe_tup (pa_cons pe_str (pa_cons pe_int pa_nil))) (nomark _)))).pt (pss_one (ps_ret pe_bl)) pss_nil)
      (pss_cons (ps_if (pw_or (pt_cmpR (op_neD hr.units) (pe_call GT hr (by rfl) T.g T.F.kp T.b .nil pass0 (pa_cons (pv 2) (pa_cons (pv 5) (pa_cons (pv 1) pa_nil)))) (pe_tup (pa_cons pe_str (pa_cons (pe_op op_pow pe_int pe_int) pa_nil))) (nomark _))
          (pw_or1 (pt_cmpR (op_neD hr.units) (pe_call GT hr (by rfl) T.g T.F.kp T.b .nil pass0 (pa_cons (pv 2) (pa_cons (pv 5) (pa_cons (pv 6) pa_nil)))) (pe_tup (pa_cons pe_str (pa_cons (pe_op op_pow pe_int pe_int) pa_nil))) (nomark _)))).pt (pss_one (ps_ret pe_bl)) pss_nil)
      (pss_one (ps_ret (pe_cmpR (op_eqD hr.units) (pe_call GT hr (by rfl) T.g T.F.kp T.b .nil pass0 (pa_cons (pv 2) (pa_cons (pv 3) (pa_cons (pv 6) pa_nil)))) (pe_tup (pa_cons pe_str (pa_cons pe_int pa_nil))) (nomark _)))))))))), ?_⟩
    obtain ⟨a, m, rfl, h0, hm2, hm5, q⟩ := h
    refine ⟨_, rfl, a, 13, rfl, h0, by decide, by decide, fun n H1 n0 n1 h1 k1 => ?_⟩
    refine ⟨_, rfl, a, 60, rfl, h1, by decide, by decide, fun S H2 S0 S1 h2 k2 => ?_⟩
    refine ⟨_, rfl, a, 12, rfl, h2, by decide, by decide, fun oc H3 o3 h3 k3 => ?_⟩
    refine ⟨_, rfl, 10, 9, rfl, rfl, c9, a, _, rfl, h3, by decide, by decide, fun ot H4 o4 h4 k4 => ?_⟩
    refine ⟨_, rfl, a, rfl, h4, fun op H5 o5 h5 k5 => ?_⟩
    rw [p9] at o4
    have oc5 : Odd 0 12 oc H5 := odd_keep (odd_keep o3 h3 k4) h4 k5
    have ot5 : Odd 0 1000000000 ot H5 := odd_keep o4 h4 k5
    have fn : Fit 0 12 (.int n) := ⟨n, rfl, n0, by omega⟩
    have fS : Fit 0 1000000000 (.int S) := ⟨S, rfl, S0, by omega⟩
    have tups : ∀ {Ha Hb : Hp}, Same Ha Hb → ∀ t xs, Ha t = some (.tup xs) → Hb t = some (.tup xs) := fun s t xs e => s t _ e
    -- the count
    refine ⟨_, rfl, _, rfl, _, rfl, _, _, _, rfl, .inl ⟨oc5, fun a1 H6 t6 => ⟨(by show 2 ≤ sizeLine; decide), fun b1 nb1 => ⟨_, _, (told_data t6 nb1 12).1, (told_data t6 nb1 12).2, by decide +kernel, by decide +kernel, false, by rfl, iteF ?_⟩⟩⟩⟩
    have s6 := t6.1.trans (same_upd (o := .tup [.str "count", .int 12]) nb1)
    refine ⟨_, rfl, _, rfl, _, rfl, _, _, _, rfl, .inl ⟨oc5.mono (tups s6), fun a2 H7 t7 => ⟨(by show 2 ≤ sizeLine; decide), fun b2 nb2 => ⟨_, _, (told_data t7 nb2 12).1, (told_data t7 nb2 12).2, by decide +kernel, by decide +kernel, false, by rfl, iteF ?_⟩⟩⟩⟩
    have s7 := s6.trans (t7.1.trans (same_upd (o := .tup [.str "count", .int 12]) nb2))
    -- the total
    refine ⟨_, rfl, _, rfl, _, rfl, _, _, _, rfl, .inr (.inl ⟨fn, ot5.mono (tups s7), fun a3 H8 t8 => ⟨10, 9, rfl, rfl, c9, (by show 2 ≤ sizeLine; decide), fun b3 nb3 => ⟨_, _, (told_data t8 nb3 _).1, (told_data t8 nb3 _).2, by decide +kernel, by decide +kernel, false, by rfl, iteF ?_⟩⟩⟩)⟩
    have s8 := s7.trans (t8.1.trans (same_upd (o := .tup [.str "total", .int (10 ^ (9 : Int).toNat)]) nb3))
    refine ⟨_, rfl, _, rfl, _, rfl, _, _, _, rfl, .inr (.inl ⟨fn, ot5.mono (tups s8), fun a4 H9 t9 => ⟨10, 9, rfl, rfl, c9, (by show 2 ≤ sizeLine; decide), fun b4 nb4 => ⟨_, _, (told_data t9 nb4 _).1, (told_data t9 nb4 _).2, by decide +kernel, by decide +kernel, false, by rfl, iteF ?_⟩⟩⟩)⟩
    have s9 := s8.trans (t9.1.trans (same_upd (o := .tup [.str "total", .int (10 ^ (9 : Int).toNat)]) nb4))
    -- the people
    refine ⟨_, rfl, _, rfl, _, rfl, _, _, _, rfl, .inr (.inr ⟨fn, fS, o5.mono (tups s9), fun a5 H10 t10 => ⟨(by show 2 ≤ sizeLine; decide), fun b5 nb5 => ⟨_, _, (told_data t10 nb5 0).1, (told_data t10 nb5 0).2, by decide +kernel, by decide +kernel, ?_⟩⟩⟩)⟩
    have e : PyData.eqv (.tuple [.str "people", .int 0]) (.tuple [.str "people", .int 0]) = true := by decide +kernel
    rw [e]
    exact q _
end
end L2.K
namespace L2.K
open PySem PySem.Spec PyProof.Rows
/-- a thing that differs from the NoPool of these two numbers -/
def Unlike (C : Addr) (lo hi : Int) (H : Hp) (y : V) : Prop := (∃ b dx lo' hi', y = .ref b ∧ H b = some (.ins C dx (nf lo' hi')) ∧ ¬ (lo = lo' ∧ hi = hi')) ∨ y = .non ∨ ∃ t xs, y = .ref t ∧ H t = some (.tup xs)
theorem Unlike.same {C : Addr} {lo hi : Int} {H H' : Hp} {y : V} (u : Unlike C lo hi H y) (s : Same H H') : Unlike C lo hi H' y := by
  rcases u with ⟨b, dx, l1, h1, e, q, n⟩ | e | ⟨t, xs, e, q⟩
  · exact .inl ⟨b, dx, l1, h1, e, s _ _ q, n⟩
  · exact .inr (.inl e)
  · exact .inr (.inr ⟨t, xs, e, s _ _ q⟩)
theorem ne_self (x : V) : V.bl (!decide (x = x)) = V.bl false := by simp
section
variable {P : Program} {w : World} {K : PySem.W.Frag} {mg : Str → Option Value} {base : Heap}
/-- __eq__'s promise at a thing that differs -/
theorem unlike_eq {C fI fE : Addr} {fdI fdE : FuncData} (Z : NpC K mg C fI fE fdI fdE) {lo hi : Int} {H : Hp} {y : V} (u : Unlike C lo hi H y) {o dx : Addr} (ho : H o = some (.ins C dx (nf lo hi))) {Q : VK} (q : Q (.bl false) H) :
    R18.Right C H y ∧ spNE C [.ref o, y] H Q E0 := by
  rcases u with ⟨b, dy, l1, h1, e, eb, n⟩ | e | ⟨t, xs, e, et⟩
  · refine ⟨.inl ⟨b, dy, _, e, eb⟩, o, dx, lo, hi, y, rfl, ho, .inl ⟨b, dy, l1, h1, e, eb, ?_⟩⟩
    rw [decide_eq_false n]
    exact q
  · exact ⟨.inr (.inl e), o, dx, lo, hi, y, rfl, ho, .inr ⟨.inl e, q⟩⟩
  · exact ⟨.inr (.inr ⟨t, xs, e, et⟩), o, dx, lo, hi, y, rfl, ho, .inr ⟨.inr (.inr (.inr ⟨t, xs, e, et⟩)), q⟩⟩
theorem scEqR : FnScope ["_law_hand_here", "_law_low", "_law_high", "_law_one", "_law_others", "_law_other"] ["_law_hand_here"] (defScope sEqR) := ⟨rfl, rfl, rfl, by decide +kernel, rfl, by decide +kernel, by decide +kernel⟩
theorem ok_eqr {f fD cN fI fE : Addr} {fd fdD fdI fdE : FuncData} (F : Fun K "_law_equals_right" "_law_equals_right" sEqR f fd)
    (D : Df K mg "_law_draw" sDraw ["_law_hand_here", "_law_many"] fD fdD) (GD : FnOk P w K mg base CX0 2 fD fdD ["_law_hand_here", "_law_many"] spDraw)
    (Z : NpC K mg cN fI fE fdI fdE) (GI : FnOk P w K mg base CX0 1 fI fdI ["self", "low", "high"] (spNI cN)) (GE : FnOk P w K mg base CX0 1 fE fdE ["self", "other"] (spNE cN)) :
    FnOk P w K mg base CX0 3 f fd ["_law_hand_here"] spEqR := by
  refine F.ok scEqR (fun vs H Q E h => ?_) (fun cdv A outer s H vs Q E hr h => ?_)
  · obtain ⟨a, rfl, _⟩ := h
    rfl
  · have hr1 : Room 1 (A.deeper (envOfC "_law_equals_right" (defScope sEqR) s.heap.objs.size f cdv)) := hr.mono (by decide)
    refine ⟨_, pss_cons (ps_set (i := 1) scEqR.nd rfl (.inl rfl) (pe_call GD hr (by rfl) D.g D.F.kp D.b .nil pass0 (pa_cons (pv 0) (pa_cons pe_int pa_nil))))
      (pss_cons (ps_set (i := 2) scEqR.nd rfl (.inl rfl) (pe_op op_add (pv 1) (pe_call GD hr (by rfl) D.g D.F.kp D.b .nil pass0 (pa_cons (pv 0) (pa_cons pe_int pa_nil)))))
      (pss_cons (ps_set (i := 3) scEqR.nd rfl (.inr rfl) (pe_make Z.make GI hr (by rfl) Z.g Z.bI .nil pass0 (pa_cons (pv 1) (pa_cons (pv 2) pa_nil))))
      (pss_cons (ps_if (pw_or (pt_cmpR op_ne (pe_fld (pv 3) rfl) (pv 1) (nomark _)) (pw_or (pt_cmpR op_ne (pe_fld (pv 3) rfl) (pv 2) (nomark _))
          (pw_or (pt_not (pt_cmpR (R18.op_eqO Z.eq GE hr1 Z.bE pass0) (pv 3) (pe_make Z.make GI hr (by rfl) Z.g Z.bI .nil pass0 (pa_cons (pv 1) (pa_cons (pv 2) pa_nil))) (nomark _)))
            (pw_or1 (pt_cmpR (R18.op_neO Z.eq GE hr Z.bE pass0) (pv 3) (pe_make Z.make GI hr (by rfl) Z.g Z.bI .nil pass0 (pa_cons (pv 1) (pa_cons (pv 2) pa_nil))) (nomark _)))))).pt (pss_one (ps_ret pe_bl)) pss_nil)
      (pss_cons (ps_set (i := 4) scEqR.nd rfl (.inl rfl) (pe_lst (pa_cons (pe_make Z.make GI hr (by rfl) Z.g Z.bI .nil pass0 (pa_cons (pe_op op_add (pv 1) pe_int) (pa_cons (pv 2) pa_nil)))
          (pa_cons (pe_make Z.make GI hr (by rfl) Z.g Z.bI .nil pass0 (pa_cons (pv 1) (pa_cons (pe_op op_add (pv 2) pe_int) pa_nil)))
          (pa_cons (pe_make Z.make GI hr (by rfl) Z.g Z.bI .nil pass0 (pa_cons (pe_op op_add (pv 2) pe_int) (pa_cons (pv 1) pa_nil)))
          (pa_cons (pe_tup (pa_cons (pv 1) (pa_cons (pv 2) pa_nil))) (pa_cons pe_non pa_nil)))))))
      (pss_one (ps_ret (pe_cmpR (op_eqD hr.units) (pe_lc (own := [("_law_other", 5)]) (g := gName 5) rfl scEqR.nd (pi_list (pv 4)) (blkOk_by (N := ["_law_hand_here", "_law_low", "_law_high", "_law_one", "_law_others", "_law_other"]) (sc := defScope sEqR) (by decide +kernel))
          (fun _ _ _ _ _ => pg_name (i := 5) scEqR.nd rfl (.inl rfl))
          (fun _ _ _ _ _ => pts_one (PW.pt (pw_or (pt_cmpR (R18.op_eqO Z.eq GE hr1 Z.bE pass0) (pv 3) (pv 5) (nomark _)) (pw_or1 (pt_not (pt_cmpR (R18.op_neO Z.eq GE hr Z.bE pass0) (pv 3) (pv 5) (nomark _)))))))
          (fun _ _ _ _ _ => pv 5)) (pe_lst pa_nil) (nomark _)))))))), ?_⟩
    obtain ⟨a, rfl, h0, q⟩ := h
    refine ⟨_, rfl, a, 13, rfl, h0, by decide, by decide, fun lo H1 l0 l1 h1 k1 => ?_⟩
    refine ⟨_, rfl, _, rfl, a, 50, rfl, h1, by decide, by decide, fun dv H2 d0 d1 h2 k2 => ⟨lo, dv, rfl, rfl, ?_⟩⟩
    -- one
    refine ⟨_, rfl, _, rfl, fun o dx no ndx ne => ⟨o, dx, lo, lo + dv, rfl, upd_same, fun H3 kp eo => ⟨rfl, ?_⟩⟩⟩
    have s3 : Same H2 H3 := Same.made no ndx kp
    refine ⟨_, rfl, o, cN, dx, _, _, rfl, eo, Z.cl, Z.nL, nf_low _ _, _, rfl, rfl, false, ne_self _, iteF ?_⟩
    refine ⟨_, rfl, o, cN, dx, _, _, rfl, eo, Z.cl, Z.nH, nf_high _ _, _, rfl, rfl, false, ne_self _, iteF ?_⟩
    refine ⟨_, rfl, _, rfl, _, rfl, fun x1 ex1 nx1 ny1 ne1 => ⟨x1, ex1, lo, lo + dv, rfl, upd_same, fun H4 kp4 e4 => ⟨rfl, ?_⟩⟩⟩
    have s4 : Same H3 H4 := Same.made nx1 ny1 kp4
    refine ⟨o, dx, _, rfl, s4 _ _ eo, .inl ⟨x1, ex1, _, rfl, e4⟩, o, dx, _, _, .ref x1, rfl, s4 _ _ eo, .inl ⟨x1, ex1, _, _, rfl, e4, true, congrArg V.bl (decide_eq_true ⟨rfl, rfl⟩), true, rfl, iteF ?_⟩⟩
    refine ⟨_, rfl, _, rfl, _, rfl, fun x2 ex2 nx2 ny2 ne2 => ⟨x2, ex2, lo, lo + dv, rfl, upd_same, fun H5 kp5 e5 => ⟨rfl, ?_⟩⟩⟩
    have s5 : Same H4 H5 := Same.made nx2 ny2 kp5
    have eo5 := s5 _ _ (s4 _ _ eo)
    refine ⟨o, dx, _, rfl, eo5, .inl ⟨x2, ex2, _, rfl, e5⟩, o, dx, _, _, .ref x2, rfl, eo5, .inl ⟨x2, ex2, _, _, rfl, e5, true, congrArg V.bl (decide_eq_true ⟨rfl, rfl⟩), false, rfl, iteF ?_⟩⟩
    -- others
    refine ⟨_, rfl, lo, 1, rfl, rfl, _, rfl, fun y1 f1 na1 nb1 nc1 => ⟨y1, f1, lo + 1, lo + dv, rfl, upd_same, fun H6 kp6 e6 => ⟨rfl, ?_⟩⟩⟩
    have s6 : Same H5 H6 := Same.made na1 nb1 kp6
    refine ⟨_, rfl, _, rfl, lo + dv, 1, rfl, rfl, fun y2 f2 na2 nb2 nc2 => ⟨y2, f2, lo, lo + dv + 1, rfl, upd_same, fun H7 kp7 e7 => ⟨rfl, ?_⟩⟩⟩
    have s7 : Same H6 H7 := Same.made na2 nb2 kp7
    refine ⟨_, rfl, lo + dv, 1, rfl, rfl, _, rfl, fun y3 f3 na3 nb3 nc3 => ⟨y3, f3, lo + dv + 1, lo, rfl, upd_same, fun H8 kp8 e8 => ⟨rfl, ?_⟩⟩⟩
    have s8 : Same H7 H8 := Same.made na3 nb3 kp8
    refine ⟨_, rfl, _, rfl, (by show 2 ≤ sizeLine; decide), fun T nT => ⟨(by show 5 ≤ sizeLine; decide), fun t nt => ?_⟩⟩
    have s9 := same_upd (o := .tup [.int lo, .int (lo + dv)]) nT
    have s10 := same_upd (o := .lst [.ref y1, .ref y2, .ref y3, .ref T, .non]) nt
    have s11 := s9.trans s10
    have eoA := s11 _ _ (s8 _ _ (s7 _ _ (s6 _ _ eo5)))
    have un : ∀ y ∈ ([.ref y1, .ref y2, .ref y3, .ref T, .non] : List V), Unlike cN lo (lo + dv) (upd (upd H8 T (.tup [.int lo, .int (lo + dv)])) t (.lst [.ref y1, .ref y2, .ref y3, .ref T, .non])) y := fun y hy => by
      simp only [List.mem_cons, List.not_mem_nil, or_false] at hy
      rcases hy with rfl | rfl | rfl | rfl | rfl
      · exact .inl ⟨y1, f1, _, _, rfl, s11 _ _ (s8 _ _ (s7 _ _ e6)), by omega⟩
      · exact .inl ⟨y2, f2, _, _, rfl, s11 _ _ (s8 _ _ e7), by omega⟩
      · exact .inl ⟨y3, f3, _, _, rfl, s11 _ _ e8, by omega⟩
      · exact .inr (.inr ⟨T, _, rfl, s10 _ _ upd_same⟩)
      · exact .inr (.inl rfl)
    refine ⟨_, rfl, t, rfl, ⟨_, .inl (.inl upd_same)⟩, fun G nG => lc_list (K := K) (a := t) (xs := [.ref y1, .ref y2, .ref y3, .ref T, .non])
      (fun i Hb => Hb G = some (.lst []) ∧ Same (upd (upd H8 T (.tup [.int lo, .int (lo + dv)])) t (.lst [.ref y1, .ref y2, .ref y3, .ref T, .non])) Hb) ⟨upd_same, same_upd nG⟩ (fun i Hb _ z => .inl (.inl (z.2 _ _ upd_same))) ?_ ?_⟩
    · rintro i y Hb hy ⟨eG, sb⟩
      have u := (un y (List.mem_of_getElem? hy)).same sb
      have eoB := sb _ _ eoA
      refine ⟨rfl, ?_⟩
      refine ⟨_, rfl, _, rfl, o, dx, _, rfl, eoB, unlike_eq Z u eoB ⟨false, rfl, false, rfl, iteF ?_⟩⟩
      refine ⟨_, rfl, _, rfl, o, dx, _, rfl, eoB, unlike_eq Z u eoB ⟨false, rfl, true, rfl, iteF ⟨eG, sb⟩⟩⟩
    · rintro Hb ⟨eG, sb⟩
      refine ⟨Nat.zero_le _, fun p np => ⟨.list [], .list [], .lst (.inl (.inl ((upd_ne (ne_of_none eG np)).trans eG))) .nil, .lst (.inl (.inl upd_same)) .nil, by decide +kernel, by decide +kernel, ?_⟩⟩
      have e : PyData.eqv (.list []) (.list []) = true := by decide +kernel
      rw [e]
      exact q _ (h2.same (s3.trans (s4.trans (s5.trans (s6.trans (s7.trans (s8.trans (s11.trans (sb.trans (same_upd np))))))))))
end
end L2.K
namespace L2.K
open PySem PySem.Spec PyProof.Rows
section
variable {P : Program} {w : World} {K : PySem.W.Frag} {mg : Str → Option Value} {base : Heap}
theorem scLaw : FnScope ["_law_script", "_law_hand_here", "_law_people", "_law_count", "_law_high", "_law_totals", "_law_k", "_law_total"] ["_law_script"] (defScope sLaw) := ⟨rfl, rfl, rfl, by decide +kernel, rfl, by decide +kernel, by decide +kernel⟩
theorem ok_law {f fH fD fK fG fR fE fF : Addr} {fd fdH fdD fdK fdG fdR fdE fdF : FuncData} (B : Blt mg) (F : Fun K "law" "law" sLaw f fd)
    (Hd : Df K mg "_law_hand" sHand ["_law_script"] fH fdH) (GH : FnOk P w K mg base CX0 1 fH fdH ["_law_script"] (spHand K))
    (D : Df K mg "_law_draw" sDraw ["_law_hand_here", "_law_many"] fD fdD) (GD : FnOk P w K mg base CX0 2 fD fdD ["_law_hand_here", "_law_many"] spDraw) (GL : FnOk P w K mg base CX0 2 fD fdD ["_law_hand_here", "_law_many"] spDrawL)
    (Pk : Df K mg "_law_pick" sPick ["_law_hand_here", "_law_things"] fK fdK) (GK : FnOk P w K mg base CX0 3 fK fdK ["_law_hand_here", "_law_things"] (spPick K))
    (Gr : Df K mg "_law_great" sGreat ["_law_count", "_law_people"] fG fdG) (GG : FnOk P w K mg base CX0 2 fG fdG ["_law_count", "_law_people"] spGreat)
    (Ri : Df K mg "_law_right" sRight ["_law_count", "_law_total", "_law_people"] fR fdR) (GR : FnOk P w K mg base CX0 5 fR fdR ["_law_count", "_law_total", "_law_people"] spRight)
    (Eq : Df K mg "_law_equals_right" sEqR ["_law_hand_here"] fE fdE) (GE : FnOk P w K mg base CX0 3 fE fdE ["_law_hand_here"] spEqR)
    (Re : Df K mg "_law_refusals_right" sRefR ["_law_hand_here", "_law_people"] fF fdF) (GF : FnOk P w K mg base CX0 6 fF fdF ["_law_hand_here", "_law_people"] spRefR) :
    FnOk P w K mg base CX0 7 f fd ["_law_script"] (spLaw K) := by
  refine F.ok scLaw (fun vs H Q E h => ?_) (fun cdv A outer s H vs Q E hr h => ?_)
  · obtain ⟨a, ns, rfl, _⟩ := h
    rfl
  · have hr1 : Room 1 (A.deeper (envOfC "law" (defScope sLaw) s.heap.objs.size f cdv)) := hr.mono (by decide)
    have hr2 : Room 2 (A.deeper (envOfC "law" (defScope sLaw) s.heap.objs.size f cdv)) := hr.mono (by decide)
    have hr3 : Room 3 (A.deeper (envOfC "law" (defScope sLaw) s.heap.objs.size f cdv)) := hr.mono (by decide)
    have hr5 : Room 5 (A.deeper (envOfC "law" (defScope sLaw) s.heap.objs.size f cdv)) := hr.mono (by decide)
    refine ⟨_, pss_cons (ps_set (i := 1) scLaw.nd rfl (.inl rfl) (pe_call GH hr1 (by rfl) Hd.g Hd.F.kp Hd.b .nil pass0 (pa_cons (pv 0) pa_nil)))
      (pss_cons (ps_set (i := 2) scLaw.nd rfl (.inl rfl) (pe_op op_add pe_int (pe_call GD hr2 (by rfl) D.g D.F.kp D.b .nil pass0 (pa_cons (pv 1) (pa_cons pe_int pa_nil)))))
      (pss_cons (ps_for PassesOwn.never rfl (pi_list (pe_lst (pa_cons (pe_call GD hr2 (by rfl) D.g D.F.kp D.b .nil pass0 (pa_cons (pv 1) (pa_cons pe_int pa_nil)))
            (pa_cons (pe_call GD hr2 (by rfl) D.g D.F.kp D.b .nil pass0 (pa_cons (pv 1) (pa_cons pe_int pa_nil)))
            (pa_cons (pe_call GK hr3 (by rfl) Pk.g Pk.F.kp Pk.b .nil pass0 (pa_cons (pv 1) (pa_cons (pe_lst (pa_cons pe_int (pa_cons pe_int (pa_cons pe_int pa_nil)))) pa_nil))) pa_nil))))) (pg_name (i := 3) scLaw.nd rfl (.inl rfl))
        (pss_cons (ps_set (i := 4) scLaw.nd rfl (.inl rfl) (pe_call GG hr2 (by rfl) Gr.g Gr.F.kp Gr.b .nil pass0 (pa_cons (pv 3) (pa_cons (pv 2) pa_nil))))
        (pss_cons (ps_set (i := 5) scLaw.nd rfl (.inl rfl) (pe_lst (pa_cons (pv 3) (pa_cons (pv 4) (pa_cons (pe_op op_add (pv 4) pe_int)
            (pa_cons (pe_callB (call_max2 rfl) (by rfl) B.max bMax (pa_cons pe_int (pa_cons (pe_op op_sub (pv 3) pe_int) pa_nil)))
            (pa_cons (pe_op op_add (pv 4) (pe_call GD hr2 (by rfl) D.g D.F.kp D.b .nil pass0 (pa_cons (pv 1) (pa_cons (pe_op op_pow pe_int pe_int) pa_nil))))
            (pa_cons (pe_op op_pow pe_int pe_int) (pa_cons (pe_call GD hr2 (by rfl) D.g D.F.kp D.b .nil pass0 (pa_cons (pv 1) (pa_cons pe_int pa_nil))) pa_nil)))))))))
        (pss_cons (ps_for PassesOwn.never rfl (pi_range1 (by rfl) B.rng (pa_cons pe_int pa_nil)) (pg_name (i := 6) scLaw.nd rfl (.inl rfl))
          (pss_one (ps_expr (pe_bm PySem.F.plainAttrs_list PySem.F.slot_list_append PySem.F.type_list_append mt_append (pv 5)
            (pa_cons (pe_op op_add (pv 3) (pe_call GL hr2 (by rfl) D.g D.F.kp D.b .nil pass0 (pa_cons (pv 1) (pa_cons (pe_op op_add (pe_op op_sub (pv 4) (pv 3)) pe_int) pa_nil)))) pa_nil)))))
        (pss_one (ps_for PassesOwn.never rfl (pi_list (pv 5)) (pg_name (i := 7) scLaw.nd rfl (.inl rfl))
          (pss_one (ps_if (pt_not (pt_val (pe_call GR hr5 (by rfl) Ri.g Ri.F.kp Ri.b .nil pass0 (pa_cons (pv 3) (pa_cons (pv 7) (pa_cons (pv 2) pa_nil)))))) (pss_one (ps_ret pe_bl)) pss_nil))))))))
      (pss_one (ps_ret (pe_and (pe_call GE hr3 (by rfl) Eq.g Eq.F.kp Eq.b .nil pass0 (pa_cons (pv 1) pa_nil)) (pe_one (pe_call GF hr (by rfl) Re.g Re.F.kp Re.b .nil pass0 (pa_cons (pv 1) (pa_cons (pv 2) pa_nil))))))))), ?_⟩
    obtain ⟨a, ns, rfl, hS, hlen, q⟩ := h
    refine ⟨_, rfl, a, ns, rfl, hS, hlen, fun h H1 s1 nh h1 => ?_⟩
    refine ⟨_, rfl, h, 4, rfl, h1, by decide, by decide, fun pe H2 p0 p1 h2 k2 => ⟨2, pe, rfl, rfl, ?_⟩⟩
    have hm2 : 2 ≤ 2 + pe := by omega
    have hm5 : 2 + pe ≤ 5 := by omega
    refine ⟨_, rfl, h, 13, rfl, h2, by decide, by decide, fun c1 H3 c10 c11 h3 k3 => ?_⟩
    refine ⟨_, rfl, h, 13, rfl, h3, by decide, by decide, fun c2 H4 c20 c21 h4 k4 => ?_⟩
    refine ⟨_, rfl, (by show 3 ≤ sizeLine; decide), fun u nu => ?_⟩
    obtain ⟨xh, eh⟩ := h4.there
    refine ⟨h, u, _, rfl, h4.same (same_upd nu), upd_same, (ne_of_none eh nu).symm, (by show 0 < 3; decide), (by show 3 ≤ 1000; decide), fun i c3 H5 hc3 h5 k5 => ?_⟩
    refine ⟨(by show 3 ≤ sizeLine; decide), fun t nt => ?_⟩
    obtain ⟨xh5, eh5⟩ := h5.there
    have th : t ≠ h := (ne_of_none eh5 nt).symm
    have counts : ∀ x ∈ ([.int c1, .int c2, c3] : List V), ∃ n : Nat, x = .int n ∧ n ≤ 12 := fun x hx => by
      simp only [List.mem_cons, List.not_mem_nil, or_false] at hx
      rcases hx with rfl | rfl | rfl
      · exact ⟨c1.toNat, by rw [Int.toNat_of_nonneg c10], by omega⟩
      · exact ⟨c2.toNat, by rw [Int.toNat_of_nonneg c20], by omega⟩
      · have mem := List.mem_of_getElem? hc3
        simp only [List.mem_cons, List.not_mem_nil, or_false] at mem
        rcases mem with rfl | rfl | rfl
        · exact ⟨0, rfl, by decide⟩
        · exact ⟨1, rfl, by decide⟩
        · exact ⟨12, rfl, by decide⟩
    refine ⟨t, rfl, ⟨_, .inl (.inl upd_same)⟩, for_list (K := K) (a := t) (xs := [.int c1, .int c2, c3])
      (fun _ σ Hx => (∃ y3 y4 y5 y6 y7, σ = [some (.ref a), some (.ref h), some (.int (2 + pe)), y3, y4, y5, y6, y7]) ∧ HandAt Hx h ∧ Hx t = some (.lst [.int c1, .int c2, c3]))
      ⟨⟨none, none, none, none, none, rfl⟩, h5.same (same_upd nt), upd_same⟩ (fun i σ Hx _ z => .inl (.inl z.2.2)) ?_ ?_⟩
    · rintro i x σ Hx hx ⟨⟨y3, y4, y5, y6, y7, rfl⟩, ha, et⟩
      obtain ⟨n, rfl, hn⟩ := counts x (List.mem_of_getElem? hx)
      refine ⟨_, rfl, _, rfl, n, 2 + pe, rfl, hn, hm2, hm5, ?_⟩
      have g1 := K18.rise_ge (m := 2 + pe) (t := 0) (Int.le_refl 0) hm2 n
      have g2 := K18.rise_small hm2 hn
      generalize K18.rise (2 + pe) 0 n = high at g1 g2 ⊢
      -- the totals
      refine ⟨_, rfl, _, rfl, _, rfl, high, 1, rfl, rfl, _, rfl, n, 1, rfl, rfl, 0, (n : Int) - 1, rfl, _, rfl, _, rfl, 10, 8, rfl, rfl, ⟨by decide, by decide, by decide⟩, h, _, rfl, ha, by decide, by decide, fun d1 H7 d10 d11 h7 k7 => ?_⟩
      refine ⟨high, d1, rfl, rfl, 10, 9, rfl, rfl, c9, _, rfl, h, 50, rfl, h7, by decide, by decide, fun d2 H8 d20 d21 h8 k8 => ⟨(by show 7 ≤ sizeLine; decide), fun l nl => ?_⟩⟩
      have e8 : (10 : Int) ^ (8 : Int).toNat = 100000000 := by decide
      rw [e8] at d11
      obtain ⟨xh8, eh8⟩ := h8.there
      have lh' : l ≠ h := (ne_of_none eh8 nl).symm
      have et8 : H8 t = some (.lst [.int c1, .int c2, c3]) := k8 _ _ th (k7 _ _ th et)
      have tl : t ≠ l := ne_of_none et8 nl
      obtain ⟨il, hL⟩ := id h8
      have ill : il ≠ l := by
        obtain ⟨cells, ip, iq, ir, e1, e2, e3⟩ := id hL
        exact ne_of_none e2 nl
      -- five more
      refine ⟨5, rfl, by decide, by decide, for_range (lo := 0) (n := 5) (fun i σ Hy => (∃ y6 y7, σ = [some (.ref a), some (.ref h), some (.int (2 + pe)), some (.int n), some (.int high), some (.ref l), y6, y7]) ∧ HandL Hy h il ∧ Hy t = some (.lst [.int c1, .int c2, c3]) ∧
          ∃ zs : List Int, Hy l = some (.lst (zs.map V.int)) ∧ zs.length = 7 + i ∧ ∀ z ∈ zs, 0 ≤ z ∧ z ≤ 1000000000)
        ⟨⟨y6, y7, rfl⟩, hL.same (same_upd nl), (upd_ne tl).trans et8, [(n : Int), high, high + 1, if (n : Int) - 1 > 0 then (n : Int) - 1 else 0, high + d1, 10 ^ (9 : Int).toNat, d2], upd_same, rfl, fun z hz => ?_⟩ ?_ ?_⟩
      · simp only [List.mem_cons, List.not_mem_nil, or_false] at hz
        have e9 := p9
        rcases hz with rfl | rfl | rfl | rfl | rfl | rfl | rfl
        · omega
        · omega
        · omega
        · split <;> omega
        · omega
        · rw [p9]
          decide
        · omega
      · rintro j σ Hy hj ⟨⟨y6, y7, rfl⟩, hy, ety, zs, ez, lz, bz⟩
        refine ⟨.ref l, rfl, .inl ⟨rfl, _, .inl (.inl ez)⟩, _, rfl, _, rfl, _, rfl, _, rfl, high, n, rfl, rfl, _, 1, rfl, rfl, h, _, il, rfl, hy, by omega, by omega, fun d Hz dz0 dz1 hz kz => ⟨n, d, rfl, rfl, l, _, _, rfl, rfl, kz _ _ lh' ez, ?_, ?_⟩⟩
        · rw [List.length_map]
          exact small1000 (by omega)
        · refine ⟨⟨_, _, rfl⟩, ?_, (upd_ne tl).trans (kz _ _ th ety), zs ++ [(n : Int) + d], ?_, by simp [lz]; omega, fun z hz2 => ?_⟩
          · exact hz.other lh'.symm ill
          · rw [upd_same, List.map_append]
            rfl
          · rcases List.mem_append.mp hz2 with z1 | z1
            · exact bz z z1
            · obtain rfl : z = (n : Int) + d := by simpa using z1
              omega
      · rintro σ Hy ⟨⟨y6, y7, rfl⟩, hy, ety, zs, ez, lz, bz⟩
        refine ⟨_, rfl, l, rfl, ⟨_, .inl (.inl ez)⟩, for_list (K := K) (a := l) (xs := zs.map V.int) (fun _ σ Hz => (∃ y6 y7, σ = [some (.ref a), some (.ref h), some (.int (2 + pe)), some (.int n), some (.int high), some (.ref l), y6, y7]) ∧ HandL Hz h il ∧ Hz t = some (.lst [.int c1, .int c2, c3]) ∧ Hz l = some (.lst (zs.map V.int)))
          ⟨⟨y6, y7, rfl⟩, hy, ety, ez⟩ (fun i σ Hz _ z => .inl (.inl z.2.2.2)) ?_ ?_⟩
        · rintro j x σ Hz hx2 ⟨⟨y6, y7, rfl⟩, hz, etz, ezz⟩
          obtain ⟨z, hz1, rfl⟩ := get_int hx2
          obtain ⟨b0, b1⟩ := bz z (List.mem_of_getElem? hz1)
          refine ⟨_, rfl, _, rfl, _, rfl, n, z, 2 + pe, rfl, hn, b0, b1, hm2, hm5, fun Hw sw => ⟨true, rfl, iteF ?_⟩⟩
          exact ⟨⟨_, _, rfl⟩, hz.same sw, sw _ _ etz, sw _ _ ezz⟩
        · rintro σ Hz ⟨⟨y6, y7, rfl⟩, hz, etz, ezz⟩
          exact ⟨⟨_, _, _, _, _, rfl⟩, ⟨il, hz⟩, etz⟩
    · rintro σ Hx ⟨⟨y3, y4, y5, y6, y7, rfl⟩, ha, et⟩
      exact ⟨_, rfl, h, rfl, ha, fun Hy hy => ⟨true, rfl, iteT ⟨_, rfl, _, rfl, h, 2 + pe, rfl, hy, hm2, hm5, fun Hz => q Hz⟩⟩⟩
end
end L2.K
namespace L2.K
open PySem PySem.Spec PyProof.Rows
/-! ### what the top has written; the law's own head -/
theorem exm_gen {K : PySem.W.Frag} {A C : Addr} {b : Bool} (h1 : PySem.W.subIn K (.ref C) (.type "BaseException") = some true) (h2 : PySem.W.isClsIn K C = true) (h3 : PySem.W.typeIn K (.ref C) = some (.type "type")) (h4 : PySem.W.subIn K (.ref A) (.ref C) = some b) : PySem.W.exmOne K (.ref A) (.ref C) = some b := by
  have u : (PySem.W.clsIn K C).isSome = true := h2
  have e1 : (PySem.W.subIn K (.ref C) (.type "BaseException") == some true) = true := by rw [h1]; rfl
  have e2 : ((PySem.W.clsIn K C).isSome && (PySem.W.typeIn K (.ref C) == some (.type "type"))) = true := by rw [u, h3]; rfl
  exact Eq.trans (if_pos e1) ((if_pos e2).trans h4)
theorem kit_gen {K : PySem.W.Frag} {T : String} {C : Addr} {b : Bool} (h2 : PySem.W.isClsIn K C = true) (h3 : PySem.W.typeIn K (.ref C) = some (.type "type")) (h4 : PySem.W.subIn K (.type T) (.ref C) = some b) : PySem.W.kitOne K (.type T) (.ref C) = some b := by
  have u : (PySem.W.clsIn K C).isSome = true := h2
  have e2 : ((PySem.W.clsIn K C).isSome && (PySem.W.typeIn K (.ref C) == some (.type "type"))) = true := by rw [u, h3]; rfl
  have e0 : ¬ (Value.type T == Value.ref C) = true := by simp
  exact Eq.trans (if_neg e0) (Eq.trans (if_pos e2) h4)
theorem kit_tup {K : PySem.W.Frag} {C : Addr} {b : Bool} (h4 : PySem.W.subIn K (.ref C) (.type "tuple") = some b) : PySem.W.kitOne K (.ref C) (.type "tuple") = some b := by
  have e2 : PySem.W.kitMeta "tuple" = true := by decide +kernel
  have e0 : ¬ (Value.ref C == Value.type "tuple") = true := by simp
  refine Eq.trans (if_neg e0) ?_
  show (if PySem.W.kitMeta "tuple" = true then PySem.W.subIn K (.ref C) (.type "tuple") else none) = some b
  rw [if_pos e2]
  exact h4
theorem kit_self {K : PySem.W.Frag} {C : Addr} : PySem.W.kitOne K (.ref C) (.ref C) = some true := if_pos (by simp)
theorem all_mk {l : PySem.W.OpenLaw} {w : World} {K : PySem.W.Frag} {h : Heap} {mg : Str → Option Value} {fa : Addr} (X : K.In h) (G : h.Ns mainGlobals mg) (hfa : mg "law" = some (.ref fa))
    {cP cC cT cN Tchp fisw fwh fckc fckt fnr frt fpf fmix fhand fdraw fpick flw fcoins fup fserv fnext fgreat foddp foddn ftold fright feqr frefr flaw fci fti fni fne fchp : Addr}
    {nmcC qcC : Str} {NcC pcC : Addr} {bscC subcC : List Value} {sncC : List Str} {abcC : Bool} {colcC : Option Bool} {ddcC : Option Addr} {m0cC m1cC m2cC m3cC m5cC : Option Value}
    {nmcT qcT : Str} {NcT pcT : Addr} {bscT subcT : List Value} {sncT : List Str} {abcT : Bool} {colcT : Option Bool} {ddcT : Option Addr} {m0cT m1cT m2cT m3cT m5cT : Option Value}
    {odisw anisw odwh anwh odckc anckc odckt anckt odnr annr odrt anrt odpf anpf odmix anmix odhand anhand oddraw andraw odpick anpick odlw anlw odcoins ancoins odup anup odserv anserv odnext annext odgreat angreat ododdp anoddp ododdn anoddn odtold antold odright anright odeqr aneqr odrefr anrefr odlaw anlaw odci anci odti anti odni anni odne anne odchp anchp odT : Option Addr} {slisw slwh slckc slckt slnr slrt slpf slmix slhand sldraw slpick sllw slcoins slup slserv slnext slgreat sloddp sloddn sltold slright sleqr slrefr sllaw slci slti slni slne slchp slT : Array (Option Value)}
    {ocisw kVisw dcisw pmisw cdisw ctisw ocwh kVwh dcwh pmwh cdwh ctwh occkc kVckc dcckc pmckc cdckc ctckc occkt kVckt dcckt pmckt cdckt ctckt ocnr kVnr dcnr pmnr cdnr ctnr ocrt kVrt dcrt pmrt cdrt ctrt ocpf kVpf dcpf pmpf cdpf ctpf ocmix kVmix dcmix pmmix cdmix ctmix ochand kVhand dchand pmhand cdhand cthand ocdraw kVdraw dcdraw pmdraw cddraw ctdraw ocpick kVpick dcpick pmpick cdpick ctpick oclw kVlw dclw pmlw cdlw ctlw occoins kVcoins dccoins pmcoins cdcoins ctcoins ocup kVup dcup pmup cdup ctup ocserv kVserv dcserv pmserv cdserv ctserv ocnext kVnext dcnext pmnext cdnext ctnext ocgreat kVgreat dcgreat pmgreat cdgreat ctgreat ocoddp kVoddp dcoddp pmoddp cdoddp ctoddp ocoddn kVoddn dcoddn pmoddn cdoddn ctoddn octold kVtold dctold pmtold cdtold cttold ocright kVright dcright pmright cdright ctright oceqr kVeqr dceqr pmeqr cdeqr cteqr ocrefr kVrefr dcrefr pmrefr cdrefr ctrefr oclaw kVlaw dclaw pmlaw cdlaw ctlaw occi kVci dcci pmci cdci ctci octi kVti dcti pmti cdti ctti ocni kVni dcni pmni cdni ctni ocne kVne dcne pmne cdne ctne occhp kVchp dcchp pmchp cdchp ctchp ocT : Value} {tkT tk5 : Tok} {nT : Nat}
    (gcP : PySem.W.nsIn K mainGlobals "BadPeople" = some (some (.ref cP)))
    (gcC : PySem.W.nsIn K mainGlobals "BadCount" = some (some (.ref cC)))
    (gcT : PySem.W.nsIn K mainGlobals "BadTotal" = some (some (.ref cT)))
    (gcN : PySem.W.nsIn K mainGlobals "NoPool" = some (some (.ref cN)))
    (xP : PySem.W.excIn K cP [.type "ValueError", .type "Exception", .type "BaseException", .type "object"] "ValueError.__new__" = true)
    (xcC : K.lookup cC = some (excClassObj nmcC qcC cC NcC bscC [.ref pcC, .type "ValueError", .type "Exception", .type "BaseException", .type "object"] true sncC subcC abcC colcC ddcC m0cC m1cC m2cC m3cC m5cC "ValueError.__new__"))
    (sacC : PySem.W.findIn K (.ref cC) "__setattr__" = some (some (.builtin "object.__setattr__")))
    (gacC : PySem.W.findIn K (.ref cC) "__getattribute__" = some (some (.builtin "BaseException.__getattribute__")))
    (ggcC : PySem.W.findIn K (.ref cC) "__getattr__" = some none)
    (nm_cC : PySem.W.findIn K (.ref cC) "most" = some none)
    (hdcC : PySem.W.hasDictIn K cC = true)
    (xcT : K.lookup cT = some (excClassObj nmcT qcT cT NcT bscT [.ref pcT, .type "ValueError", .type "Exception", .type "BaseException", .type "object"] true sncT subcT abcT colcT ddcT m0cT m1cT m2cT m3cT m5cT "ValueError.__new__"))
    (sacT : PySem.W.findIn K (.ref cT) "__setattr__" = some (some (.builtin "object.__setattr__")))
    (gacT : PySem.W.findIn K (.ref cT) "__getattribute__" = some (some (.builtin "BaseException.__getattribute__")))
    (ggcT : PySem.W.findIn K (.ref cT) "__getattr__" = some none)
    (nm_cT : PySem.W.findIn K (.ref cT) "most" = some none)
    (hdcT : PySem.W.hasDictIn K cT = true)
    (kpcP : PySem.W.keepIn K (.ref cP) = true)
    (excP : PySem.W.subIn K (.ref cP) (.type "BaseException") = some true)
    (tycP : PySem.W.typeIn K (.ref cP) = some (.type "type"))
    (iscP : PySem.W.isClsIn K cP = true)
    (kpcC : PySem.W.keepIn K (.ref cC) = true)
    (excC : PySem.W.subIn K (.ref cC) (.type "BaseException") = some true)
    (tycC : PySem.W.typeIn K (.ref cC) = some (.type "type"))
    (iscC : PySem.W.isClsIn K cC = true)
    (kpcT : PySem.W.keepIn K (.ref cT) = true)
    (excT : PySem.W.subIn K (.ref cT) (.type "BaseException") = some true)
    (tycT : PySem.W.typeIn K (.ref cT) = some (.type "type"))
    (iscT : PySem.W.isClsIn K cT = true)
    (sucCcC : PySem.W.subIn K (.ref cC) (.ref cC) = some true)
    (sucTcC : PySem.W.subIn K (.ref cT) (.ref cC) = some false)
    (sucTcT : PySem.W.subIn K (.ref cT) (.ref cT) = some true)
    (sucPcC : PySem.W.subIn K (.ref cP) (.ref cC) = some false)
    (sucPcT : PySem.W.subIn K (.ref cP) (.ref cT) = some false)
    (sucPcP : PySem.W.subIn K (.ref cP) (.ref cP) = some true)
    (pg : PySem.W.plainGet K cN Str.empty = true)
    (hdN : PySem.W.hasDictIn K cN = true)
    (po : PySem.W.plainOver K cN = true)
    (saN : PySem.W.findIn K (.ref cN) "__setattr__" = some (some (.builtin "object.__setattr__")))
    (nL : PySem.W.findIn K (.ref cN) "low" = some none)
    (nH : PySem.W.findIn K (.ref cN) "high" = some none)
    (mk : PySem.W.makesIn K cN = true)
    (kcN : PySem.W.keepIn K (.ref cN) = true)
    (neN : PySem.W.findIn K (.ref cN) "__ne__" = some (some (.builtin "object.__ne__")))
    (obN : PySem.W.mroIn K cN (.type "object") = some true)
    (sN : PySem.W.subIn K (.type "NoneType") (.ref cN) = some false)
    (sT : PySem.W.subIn K (.type "tuple") (.ref cN) = some false)
    (ca : PySem.W.findIn K (.ref cN) "__class__" = some (some (.builtin "object.__class__")))
    (cg : PySem.W.specialIn K (.builtin "object.__class__") "__get__" = some (some (.builtin "getset_descriptor.__get__")))
    (ct : PySem.W.takesIn K (.builtin "object.__class__") = some true)
    (isN : PySem.W.isClsIn K cN = true)
    (tyN : PySem.W.typeIn K (.ref cN) = some (.type "type"))
    (sB : PySem.W.subIn K (.type "bool") (.ref cN) = some false)
    (sS : PySem.W.subIn K (.type "str") (.ref cN) = some false)
    (tuN : PySem.W.subIn K (.ref cN) (.type "tuple") = some false)
    (aci : PySem.W.findIn K (.ref cC) "__init__" = some (some (.ref fci)))
    (tci : PySem.W.typeIn K (.ref fci) = some (.type "function"))
    (lci : K.lookup fci = some ⟨occi, odci, .func (PySem.W.fnOf "__init__" "BadCount.__init__" (defArgs sCI) (defBody sCI) (defScope sCI) .none kVci dcci pmci anci cdci ctci), slci⟩)
    (cci : PySem.W.codeIn K cdci "BadCount.__init__" = true)
    (kci : PySem.W.keepIn K (.ref fci) = true)
    (ati : PySem.W.findIn K (.ref cT) "__init__" = some (some (.ref fti)))
    (tti : PySem.W.typeIn K (.ref fti) = some (.type "function"))
    (lti : K.lookup fti = some ⟨octi, odti, .func (PySem.W.fnOf "__init__" "BadTotal.__init__" (defArgs sTI) (defBody sTI) (defScope sTI) .none kVti dcti pmti anti cdti ctti), slti⟩)
    (cti : PySem.W.codeIn K cdti "BadTotal.__init__" = true)
    (kti : PySem.W.keepIn K (.ref fti) = true)
    (ani : PySem.W.findIn K (.ref cN) "__init__" = some (some (.ref fni)))
    (ini : PySem.W.isFn K (.ref fni) = true)
    (lni : K.lookup fni = some ⟨ocni, odni, .func (PySem.W.fnOf "__init__" "NoPool.__init__" (defArgs sNI) (defBody sNI) (defScope sNI) .none kVni dcni pmni anni cdni ctni), slni⟩)
    (cni : PySem.W.codeIn K cdni "NoPool.__init__" = true)
    (kni : PySem.W.keepIn K (.ref fni) = true)
    (ane : PySem.W.findIn K (.ref cN) "__eq__" = some (some (.ref fne)))
    (ine : PySem.W.isFn K (.ref fne) = true)
    (lne : K.lookup fne = some ⟨ocne, odne, .func (PySem.W.fnOf "__eq__" "NoPool.__eq__" (defArgs sNE) (defBody sNE) (defScope sNE) .none kVne dcne pmne anne cdne ctne), slne⟩)
    (cne : PySem.W.codeIn K cdne "NoPool.__eq__" = true)
    (kne : PySem.W.keepIn K (.ref fne) = true)
    (aisw : PySem.W.nsIn K mainGlobals "is_whole" = some (some (.ref fisw)))
    (lisw : K.lookup fisw = some ⟨ocisw, odisw, .func (PySem.W.fnOf "is_whole" "is_whole" (defArgs sIsW) (defBody sIsW) (defScope sIsW) .none kVisw dcisw pmisw anisw cdisw ctisw), slisw⟩)
    (cisw : PySem.W.codeIn K cdisw "is_whole" = true)
    (kisw : PySem.W.keepIn K (.ref fisw) = true)
    (awh : PySem.W.nsIn K mainGlobals "whole_within" = some (some (.ref fwh)))
    (lwh : K.lookup fwh = some ⟨ocwh, odwh, .func (PySem.W.fnOf "whole_within" "whole_within" (defArgs sWh) (defBody sWh) (defScope sWh) .none kVwh dcwh pmwh anwh cdwh ctwh), slwh⟩)
    (cwh : PySem.W.codeIn K cdwh "whole_within" = true)
    (kwh : PySem.W.keepIn K (.ref fwh) = true)
    (ackc : PySem.W.nsIn K mainGlobals "check_count" = some (some (.ref fckc)))
    (lckc : K.lookup fckc = some ⟨occkc, odckc, .func (PySem.W.fnOf "check_count" "check_count" (defArgs sCkC) (defBody sCkC) (defScope sCkC) .none kVckc dcckc pmckc anckc cdckc ctckc), slckc⟩)
    (cckc : PySem.W.codeIn K cdckc "check_count" = true)
    (kckc : PySem.W.keepIn K (.ref fckc) = true)
    (ackt : PySem.W.nsIn K mainGlobals "check_total" = some (some (.ref fckt)))
    (lckt : K.lookup fckt = some ⟨occkt, odckt, .func (PySem.W.fnOf "check_total" "check_total" (defArgs sCkT) (defBody sCkT) (defScope sCkT) .none kVckt dcckt pmckt anckt cdckt ctckt), slckt⟩)
    (cckt : PySem.W.codeIn K cdckt "check_total" = true)
    (kckt : PySem.W.keepIn K (.ref fckt) = true)
    (anr : PySem.W.nsIn K mainGlobals "next_room" = some (some (.ref fnr)))
    (lnr : K.lookup fnr = some ⟨ocnr, odnr, .func (PySem.W.fnOf "next_room" "next_room" (defArgs sNR) (defBody sNR) (defScope sNR) .none kVnr dcnr pmnr annr cdnr ctnr), slnr⟩)
    (cnr : PySem.W.codeIn K cdnr "next_room" = true)
    (knr : PySem.W.keepIn K (.ref fnr) = true)
    (art : PySem.W.nsIn K mainGlobals "risen_total" = some (some (.ref frt)))
    (lrt : K.lookup frt = some ⟨ocrt, odrt, .func (PySem.W.fnOf "risen_total" "risen_total" (defArgs sRT) (defBody sRT) (defScope sRT) .none kVrt dcrt pmrt anrt cdrt ctrt), slrt⟩)
    (crt : PySem.W.codeIn K cdrt "risen_total" = true)
    (krt : PySem.W.keepIn K (.ref frt) = true)
    (apf : PySem.W.nsIn K mainGlobals "pool_for" = some (some (.ref fpf)))
    (lpf : K.lookup fpf = some ⟨ocpf, odpf, .func (PySem.W.fnOf "pool_for" "pool_for" (defArgs sPF) (defBody sPF) (defScope sPF) .none kVpf dcpf pmpf anpf cdpf ctpf), slpf⟩)
    (cpf : PySem.W.codeIn K cdpf "pool_for" = true)
    (kpf : PySem.W.keepIn K (.ref fpf) = true)
    (amix : PySem.W.nsIn K mainGlobals "_law_mix" = some (some (.ref fmix)))
    (lmix : K.lookup fmix = some ⟨ocmix, odmix, .func (PySem.W.fnOf "_law_mix" "_law_mix" (defArgs sMix) (defBody sMix) (defScope sMix) .none kVmix dcmix pmmix anmix cdmix ctmix), slmix⟩)
    (cmix : PySem.W.codeIn K cdmix "_law_mix" = true)
    (kmix : PySem.W.keepIn K (.ref fmix) = true)
    (ahand : PySem.W.nsIn K mainGlobals "_law_hand" = some (some (.ref fhand)))
    (lhand : K.lookup fhand = some ⟨ochand, odhand, .func (PySem.W.fnOf "_law_hand" "_law_hand" (defArgs sHand) (defBody sHand) (defScope sHand) .none kVhand dchand pmhand anhand cdhand cthand), slhand⟩)
    (chand : PySem.W.codeIn K cdhand "_law_hand" = true)
    (khand : PySem.W.keepIn K (.ref fhand) = true)
    (adraw : PySem.W.nsIn K mainGlobals "_law_draw" = some (some (.ref fdraw)))
    (ldraw : K.lookup fdraw = some ⟨ocdraw, oddraw, .func (PySem.W.fnOf "_law_draw" "_law_draw" (defArgs sDraw) (defBody sDraw) (defScope sDraw) .none kVdraw dcdraw pmdraw andraw cddraw ctdraw), sldraw⟩)
    (cdraw : PySem.W.codeIn K cddraw "_law_draw" = true)
    (kdraw : PySem.W.keepIn K (.ref fdraw) = true)
    (apick : PySem.W.nsIn K mainGlobals "_law_pick" = some (some (.ref fpick)))
    (lpick : K.lookup fpick = some ⟨ocpick, odpick, .func (PySem.W.fnOf "_law_pick" "_law_pick" (defArgs sPick) (defBody sPick) (defScope sPick) .none kVpick dcpick pmpick anpick cdpick ctpick), slpick⟩)
    (cpick : PySem.W.codeIn K cdpick "_law_pick" = true)
    (kpick : PySem.W.keepIn K (.ref fpick) = true)
    (alw : PySem.W.nsIn K mainGlobals "_law_is_whole" = some (some (.ref flw)))
    (llw : K.lookup flw = some ⟨oclw, odlw, .func (PySem.W.fnOf "_law_is_whole" "_law_is_whole" (defArgs sLW) (defBody sLW) (defScope sLW) .none kVlw dclw pmlw anlw cdlw ctlw), sllw⟩)
    (clw : PySem.W.codeIn K cdlw "_law_is_whole" = true)
    (klw : PySem.W.keepIn K (.ref flw) = true)
    (acoins : PySem.W.nsIn K mainGlobals "_law_is_coins" = some (some (.ref fcoins)))
    (lcoins : K.lookup fcoins = some ⟨occoins, odcoins, .func (PySem.W.fnOf "_law_is_coins" "_law_is_coins" (defArgs sCoins) (defBody sCoins) (defScope sCoins) .none kVcoins dccoins pmcoins ancoins cdcoins ctcoins), slcoins⟩)
    (ccoins : PySem.W.codeIn K cdcoins "_law_is_coins" = true)
    (kcoins : PySem.W.keepIn K (.ref fcoins) = true)
    (aup : PySem.W.nsIn K mainGlobals "_law_up" = some (some (.ref fup)))
    (lup : K.lookup fup = some ⟨ocup, odup, .func (PySem.W.fnOf "_law_up" "_law_up" (defArgs sUp) (defBody sUp) (defScope sUp) .none kVup dcup pmup anup cdup ctup), slup⟩)
    (cup : PySem.W.codeIn K cdup "_law_up" = true)
    (kup : PySem.W.keepIn K (.ref fup) = true)
    (aserv : PySem.W.nsIn K mainGlobals "_law_serves" = some (some (.ref fserv)))
    (lserv : K.lookup fserv = some ⟨ocserv, odserv, .func (PySem.W.fnOf "_law_serves" "_law_serves" (defArgs sServ) (defBody sServ) (defScope sServ) .none kVserv dcserv pmserv anserv cdserv ctserv), slserv⟩)
    (cserv : PySem.W.codeIn K cdserv "_law_serves" = true)
    (kserv : PySem.W.keepIn K (.ref fserv) = true)
    (anext : PySem.W.nsIn K mainGlobals "_law_next" = some (some (.ref fnext)))
    (lnext : K.lookup fnext = some ⟨ocnext, odnext, .func (PySem.W.fnOf "_law_next" "_law_next" (defArgs sNext) (defBody sNext) (defScope sNext) .none kVnext dcnext pmnext annext cdnext ctnext), slnext⟩)
    (cnext : PySem.W.codeIn K cdnext "_law_next" = true)
    (knext : PySem.W.keepIn K (.ref fnext) = true)
    (agreat : PySem.W.nsIn K mainGlobals "_law_great" = some (some (.ref fgreat)))
    (lgreat : K.lookup fgreat = some ⟨ocgreat, odgreat, .func (PySem.W.fnOf "_law_great" "_law_great" (defArgs sGreat) (defBody sGreat) (defScope sGreat) .none kVgreat dcgreat pmgreat angreat cdgreat ctgreat), slgreat⟩)
    (cgreat : PySem.W.codeIn K cdgreat "_law_great" = true)
    (kgreat : PySem.W.keepIn K (.ref fgreat) = true)
    (aoddp : PySem.W.nsIn K mainGlobals "_law_odd_people" = some (some (.ref foddp)))
    (loddp : K.lookup foddp = some ⟨ocoddp, ododdp, .func (PySem.W.fnOf "_law_odd_people" "_law_odd_people" (defArgs sOddP) (defBody sOddP) (defScope sOddP) .none kVoddp dcoddp pmoddp anoddp cdoddp ctoddp), sloddp⟩)
    (coddp : PySem.W.codeIn K cdoddp "_law_odd_people" = true)
    (koddp : PySem.W.keepIn K (.ref foddp) = true)
    (aoddn : PySem.W.nsIn K mainGlobals "_law_odd_number" = some (some (.ref foddn)))
    (loddn : K.lookup foddn = some ⟨ocoddn, ododdn, .func (PySem.W.fnOf "_law_odd_number" "_law_odd_number" (defArgs sOddN) (defBody sOddN) (defScope sOddN) .none kVoddn dcoddn pmoddn anoddn cdoddn ctoddn), sloddn⟩)
    (coddn : PySem.W.codeIn K cdoddn "_law_odd_number" = true)
    (koddn : PySem.W.keepIn K (.ref foddn) = true)
    (atold : PySem.W.nsIn K mainGlobals "_law_told" = some (some (.ref ftold)))
    (ltold : K.lookup ftold = some ⟨octold, odtold, .func (PySem.W.fnOf "_law_told" "_law_told" (defArgs sTold) (defBody sTold) (defScope sTold) .none kVtold dctold pmtold antold cdtold cttold), sltold⟩)
    (ctold : PySem.W.codeIn K cdtold "_law_told" = true)
    (ktold : PySem.W.keepIn K (.ref ftold) = true)
    (aright : PySem.W.nsIn K mainGlobals "_law_right" = some (some (.ref fright)))
    (lright : K.lookup fright = some ⟨ocright, odright, .func (PySem.W.fnOf "_law_right" "_law_right" (defArgs sRight) (defBody sRight) (defScope sRight) .none kVright dcright pmright anright cdright ctright), slright⟩)
    (cright : PySem.W.codeIn K cdright "_law_right" = true)
    (kright : PySem.W.keepIn K (.ref fright) = true)
    (aeqr : PySem.W.nsIn K mainGlobals "_law_equals_right" = some (some (.ref feqr)))
    (leqr : K.lookup feqr = some ⟨oceqr, odeqr, .func (PySem.W.fnOf "_law_equals_right" "_law_equals_right" (defArgs sEqR) (defBody sEqR) (defScope sEqR) .none kVeqr dceqr pmeqr aneqr cdeqr cteqr), sleqr⟩)
    (ceqr : PySem.W.codeIn K cdeqr "_law_equals_right" = true)
    (keqr : PySem.W.keepIn K (.ref feqr) = true)
    (arefr : PySem.W.nsIn K mainGlobals "_law_refusals_right" = some (some (.ref frefr)))
    (lrefr : K.lookup frefr = some ⟨ocrefr, odrefr, .func (PySem.W.fnOf "_law_refusals_right" "_law_refusals_right" (defArgs sRefR) (defBody sRefR) (defScope sRefR) .none kVrefr dcrefr pmrefr anrefr cdrefr ctrefr), slrefr⟩)
    (crefr : PySem.W.codeIn K cdrefr "_law_refusals_right" = true)
    (krefr : PySem.W.keepIn K (.ref frefr) = true)
    (alaw : PySem.W.nsIn K mainGlobals "law" = some (some (.ref flaw)))
    (llaw : K.lookup flaw = some ⟨oclaw, odlaw, .func (PySem.W.fnOf "law" "law" (defArgs sLaw) (defBody sLaw) (defScope sLaw) .none kVlaw dclaw pmlaw anlaw cdlaw ctlaw), sllaw⟩)
    (claw : PySem.W.codeIn K cdlaw "law" = true)
    (klaw : PySem.W.keepIn K (.ref flaw) = true)
    (achp : PySem.W.nsIn K mainGlobals "check_people" = some (some (.ref fchp)))
    (lchp : K.lookup fchp = some ⟨occhp, odchp, .func (PySem.W.fnOf "check_people" "check_people" (defArgs sChP) (defBody sChP) (defScope sChP) (.ref Tchp) kVchp dcchp pmchp anchp cdchp ctchp), slchp⟩)
    (cchp : PySem.W.codeIn K cdchp "check_people" = true)
    (kchp : PySem.W.keepIn K (.ref fchp) = true)
    (dchp : K.lookup Tchp = some ⟨ocT, odT, .seq #[.int 1 tkT] nT, slT⟩)
    (mp : PySem.W.nsIn K mainGlobals "MOST_PEOPLE" = some (some (.int 5 tk5)))
    (zisinstance : PySem.W.nsIn K mainGlobals "isinstance" = some none)
    (zint : PySem.W.nsIn K mainGlobals "int" = some none)
    (zbool : PySem.W.nsIn K mainGlobals "bool" = some none)
    (zrange : PySem.W.nsIn K mainGlobals "range" = some none)
    (zmin : PySem.W.nsIn K mainGlobals "min" = some none)
    (zmax : PySem.W.nsIn K mainGlobals "max" = some none)
    (ztuple : PySem.W.nsIn K mainGlobals "tuple" = some none)
    (zsorted : PySem.W.nsIn K mainGlobals "sorted" = some none)
    (zlist : PySem.W.nsIn K mainGlobals "list" = some none)
    (zenumerate : PySem.W.nsIn K mainGlobals "enumerate" = some none)
    (zabs : PySem.W.nsIn K mainGlobals "abs" = some none)
    (zlen : PySem.W.nsIn K mainGlobals "len" = some none)
    (zsum : PySem.W.nsIn K mainGlobals "sum" = some none)
    : ∃ fd : FuncData, (∀ (s : Shared) (v : Value), BindsTo s fd ⟨[v], []⟩ [("_law_script", v)]) ∧ ∀ base : Heap, K.In base → base.Ns mainGlobals mg → FnOk l.prog w K mg base CX0 7 fa fd ["_law_script"] (spLaw K) := by
  have e : flaw = fa := Value.ref.inj (Option.some.inj ((PySem.W.mg_of X G alaw).symm.trans hfa))
  subst e
  have Fci := fun_mk (st := sCI) lci cci kci
  have Fti := fun_mk (st := sTI) lti cti kti
  have Fni := fun_mk (st := sNI) lni cni kni
  have Fne := fun_mk (st := sNE) lne cne kne
  have Fisw := fun_mk (st := sIsW) lisw cisw kisw
  have Fwh := fun_mk (st := sWh) lwh cwh kwh
  have Fckc := fun_mk (st := sCkC) lckc cckc kckc
  have Fckt := fun_mk (st := sCkT) lckt cckt kckt
  have Fnr := fun_mk (st := sNR) lnr cnr knr
  have Frt := fun_mk (st := sRT) lrt crt krt
  have Fpf := fun_mk (st := sPF) lpf cpf kpf
  have Fmix := fun_mk (st := sMix) lmix cmix kmix
  have Fhand := fun_mk (st := sHand) lhand chand khand
  have Fdraw := fun_mk (st := sDraw) ldraw cdraw kdraw
  have Fpick := fun_mk (st := sPick) lpick cpick kpick
  have Flw := fun_mk (st := sLW) llw clw klw
  have Fcoins := fun_mk (st := sCoins) lcoins ccoins kcoins
  have Fup := fun_mk (st := sUp) lup cup kup
  have Fserv := fun_mk (st := sServ) lserv cserv kserv
  have Fnext := fun_mk (st := sNext) lnext cnext knext
  have Fgreat := fun_mk (st := sGreat) lgreat cgreat kgreat
  have Foddp := fun_mk (st := sOddP) loddp coddp koddp
  have Foddn := fun_mk (st := sOddN) loddn coddn koddn
  have Ftold := fun_mk (st := sTold) ltold ctold ktold
  have Fright := fun_mk (st := sRight) lright cright kright
  have Feqr := fun_mk (st := sEqR) leqr ceqr keqr
  have Frefr := fun_mk (st := sRefR) lrefr crefr krefr
  have Flaw := fun_mk (st := sLaw) llaw claw klaw
  have bci := Fci.binds (ps := ["self", "most"]) fun _ _ _ _ _ _ us hl => match us, hl with | [_, _], _ => rfl
  have bti := Fti.binds (ps := ["self", "most"]) fun _ _ _ _ _ _ us hl => match us, hl with | [_, _], _ => rfl
  have bni := Fni.binds (ps := ["self", "low", "high"]) fun _ _ _ _ _ _ us hl => match us, hl with | [_, _, _], _ => rfl
  have bne := Fne.binds (ps := ["self", "other"]) fun _ _ _ _ _ _ us hl => match us, hl with | [_, _], _ => rfl
  have Disw : Df K mg "is_whole" sIsW ["thing", "low", "high"] fisw _ := ⟨Fisw, PySem.W.mg_of X G aisw, Fisw.binds (ps := ["thing", "low", "high"]) fun _ _ _ _ _ _ us hl => match us, hl with | [_, _, _], _ => rfl⟩
  have Dwh : Df K mg "whole_within" sWh ["thing", "low", "high"] fwh _ := ⟨Fwh, PySem.W.mg_of X G awh, Fwh.binds (ps := ["thing", "low", "high"]) fun _ _ _ _ _ _ us hl => match us, hl with | [_, _, _], _ => rfl⟩
  have Dckc : Df K mg "check_count" sCkC ["count", "most"] fckc _ := ⟨Fckc, PySem.W.mg_of X G ackc, Fckc.binds (ps := ["count", "most"]) fun _ _ _ _ _ _ us hl => match us, hl with | [_, _], _ => rfl⟩
  have Dckt : Df K mg "check_total" sCkT ["total", "most"] fckt _ := ⟨Fckt, PySem.W.mg_of X G ackt, Fckt.binds (ps := ["total", "most"]) fun _ _ _ _ _ _ us hl => match us, hl with | [_, _], _ => rfl⟩
  have Dnr : Df K mg "next_room" sNR ["total", "people"] fnr _ := ⟨Fnr, PySem.W.mg_of X G anr, Fnr.binds (ps := ["total", "people"]) fun _ _ _ _ _ _ us hl => match us, hl with | [_, _], _ => rfl⟩
  have Drt : Df K mg "risen_total" sRT ["total", "count", "people"] frt _ := ⟨Frt, PySem.W.mg_of X G art, Frt.binds (ps := ["total", "count", "people"]) fun _ _ _ _ _ _ us hl => match us, hl with | [_, _, _], _ => rfl⟩
  have Dpf : Df K mg "pool_for" sPF ["count", "total", "people"] fpf _ := ⟨Fpf, PySem.W.mg_of X G apf, Fpf.binds (ps := ["count", "total", "people"]) fun _ _ _ _ _ _ us hl => match us, hl with | [_, _, _], _ => rfl⟩
  have Dmix : Df K mg "_law_mix" sMix ["_law_number", "_law_turn"] fmix _ := ⟨Fmix, PySem.W.mg_of X G amix, Fmix.binds (ps := ["_law_number", "_law_turn"]) fun _ _ _ _ _ _ us hl => match us, hl with | [_, _], _ => rfl⟩
  have Dhand : Df K mg "_law_hand" sHand ["_law_script"] fhand _ := ⟨Fhand, PySem.W.mg_of X G ahand, Fhand.binds (ps := ["_law_script"]) fun _ _ _ _ _ _ us hl => match us, hl with | [_], _ => rfl⟩
  have Ddraw : Df K mg "_law_draw" sDraw ["_law_hand_here", "_law_many"] fdraw _ := ⟨Fdraw, PySem.W.mg_of X G adraw, Fdraw.binds (ps := ["_law_hand_here", "_law_many"]) fun _ _ _ _ _ _ us hl => match us, hl with | [_, _], _ => rfl⟩
  have Dpick : Df K mg "_law_pick" sPick ["_law_hand_here", "_law_things"] fpick _ := ⟨Fpick, PySem.W.mg_of X G apick, Fpick.binds (ps := ["_law_hand_here", "_law_things"]) fun _ _ _ _ _ _ us hl => match us, hl with | [_, _], _ => rfl⟩
  have Dlw : Df K mg "_law_is_whole" sLW ["_law_thing"] flw _ := ⟨Flw, PySem.W.mg_of X G alw, Flw.binds (ps := ["_law_thing"]) fun _ _ _ _ _ _ us hl => match us, hl with | [_], _ => rfl⟩
  have Dcoins : Df K mg "_law_is_coins" sCoins ["_law_thing"] fcoins _ := ⟨Fcoins, PySem.W.mg_of X G acoins, Fcoins.binds (ps := ["_law_thing"]) fun _ _ _ _ _ _ us hl => match us, hl with | [_], _ => rfl⟩
  have Dup : Df K mg "_law_up" sUp ["_law_total", "_law_people"] fup _ := ⟨Fup, PySem.W.mg_of X G aup, Fup.binds (ps := ["_law_total", "_law_people"]) fun _ _ _ _ _ _ us hl => match us, hl with | [_, _], _ => rfl⟩
  have Dserv : Df K mg "_law_serves" sServ ["_law_coins", "_law_people"] fserv _ := ⟨Fserv, PySem.W.mg_of X G aserv, Fserv.binds (ps := ["_law_coins", "_law_people"]) fun _ _ _ _ _ _ us hl => match us, hl with | [_, _], _ => rfl⟩
  have Dnext : Df K mg "_law_next" sNext ["_law_total", "_law_people"] fnext _ := ⟨Fnext, PySem.W.mg_of X G anext, Fnext.binds (ps := ["_law_total", "_law_people"]) fun _ _ _ _ _ _ us hl => match us, hl with | [_, _], _ => rfl⟩
  have Dgreat : Df K mg "_law_great" sGreat ["_law_count", "_law_people"] fgreat _ := ⟨Fgreat, PySem.W.mg_of X G agreat, Fgreat.binds (ps := ["_law_count", "_law_people"]) fun _ _ _ _ _ _ us hl => match us, hl with | [_, _], _ => rfl⟩
  have Doddp : Df K mg "_law_odd_people" sOddP ["_law_hand_here"] foddp _ := ⟨Foddp, PySem.W.mg_of X G aoddp, Foddp.binds (ps := ["_law_hand_here"]) fun _ _ _ _ _ _ us hl => match us, hl with | [_], _ => rfl⟩
  have Doddn : Df K mg "_law_odd_number" sOddN ["_law_hand_here", "_law_most"] foddn _ := ⟨Foddn, PySem.W.mg_of X G aoddn, Foddn.binds (ps := ["_law_hand_here", "_law_most"]) fun _ _ _ _ _ _ us hl => match us, hl with | [_, _], _ => rfl⟩
  have Dtold : Df K mg "_law_told" sTold ["_law_count", "_law_total", "_law_people"] ftold _ := ⟨Ftold, PySem.W.mg_of X G atold, Ftold.binds (ps := ["_law_count", "_law_total", "_law_people"]) fun _ _ _ _ _ _ us hl => match us, hl with | [_, _, _], _ => rfl⟩
  have Dright : Df K mg "_law_right" sRight ["_law_count", "_law_total", "_law_people"] fright _ := ⟨Fright, PySem.W.mg_of X G aright, Fright.binds (ps := ["_law_count", "_law_total", "_law_people"]) fun _ _ _ _ _ _ us hl => match us, hl with | [_, _, _], _ => rfl⟩
  have Deqr : Df K mg "_law_equals_right" sEqR ["_law_hand_here"] feqr _ := ⟨Feqr, PySem.W.mg_of X G aeqr, Feqr.binds (ps := ["_law_hand_here"]) fun _ _ _ _ _ _ us hl => match us, hl with | [_], _ => rfl⟩
  have Drefr : Df K mg "_law_refusals_right" sRefR ["_law_hand_here", "_law_people"] frefr _ := ⟨Frefr, PySem.W.mg_of X G arefr, Frefr.binds (ps := ["_law_hand_here", "_law_people"]) fun _ _ _ _ _ _ us hl => match us, hl with | [_, _], _ => rfl⟩
  have Dlaw : Df K mg "law" sLaw ["_law_script"] flaw _ := ⟨Flaw, PySem.W.mg_of X G alaw, Flaw.binds (ps := ["_law_script"]) fun _ _ _ _ _ _ us hl => match us, hl with | [_], _ => rfl⟩
  have B : Blt mg := ⟨PySem.W.mg_none_of X G zisinstance, PySem.W.mg_none_of X G zint, PySem.W.mg_none_of X G zbool, PySem.W.mg_none_of X G zrange, PySem.W.mg_none_of X G zmin, PySem.W.mg_none_of X G zmax, PySem.W.mg_none_of X G ztuple, PySem.W.mg_none_of X G zsorted, PySem.W.mg_none_of X G zlist, PySem.W.mg_none_of X G zenumerate, PySem.W.mg_none_of X G zabs, PySem.W.mg_none_of X G zlen, PySem.W.mg_none_of X G zsum⟩
  have OcC : OexC K cC := ⟨⟨nmcC, qcC, NcC, bscC, _, sncC, subcC, abcC, colcC, ddcC, m0cC, m1cC, m2cC, m3cC, m5cC, xcC, rfl⟩, sacC, excC, tycC, kpcC⟩
  have EcC : ExC K mg "BadCount" cC fci _ := ⟨OcC, PySem.W.mg_of X G gcC, aci, tci, bci⟩
  have OcT : OexC K cT := ⟨⟨nmcT, qcT, NcT, bscT, _, sncT, subcT, abcT, colcT, ddcT, m0cT, m1cT, m2cT, m3cT, m5cT, xcT, rfl⟩, sacT, excT, tycT, kpcT⟩
  have EcT : ExC K mg "BadTotal" cT fti _ := ⟨OcT, PySem.W.mg_of X G gcT, ati, tti, bti⟩
  have Z : NpC K mg cN fni fne _ _ := { cl := ⟨pg, hdN, po, saN⟩, nL := nL, nH := nH, g := PySem.W.mg_of X G gcN, make := ⟨mk, ani, ini, kcN⟩, bI := bni, bE := bne, eq := ⟨ane, ine, neN, obN, sN, sT⟩, ca := ca, cg := cg, ct := ct, own := kit_self, noN := kit_gen isN tyN sN, noB := kit_gen isN tyN sB, noS := kit_gen isN tyN sS, noT := kit_gen isN tyN sT, tup := kit_tup tuN }
  have BP : BpC K mg cP _ := ⟨xP, rfl, PySem.W.mg_of X G gcP, kpcP, excP, tycP⟩
  have Er : Errs K mg cP cC cT := ⟨PySem.W.mg_of X G gcC, PySem.W.mg_of X G gcT, PySem.W.mg_of X G gcP, ⟨gacC, ggcC, excC, hdcC⟩, ⟨gacT, ggcT, excT, hdcT⟩, nm_cC, nm_cT, exm_gen excC iscC tycC sucCcC, exm_gen excC iscC tycC sucTcC, exm_gen excT iscT tycT sucTcT, exm_gen excC iscC tycC sucPcC, exm_gen excT iscT tycT sucPcT, exm_gen excP iscP tycP sucPcP⟩
  have FD : FunD K "check_people" "check_people" (defArgs sChP) (defBody sChP) (defScope sChP) [.int 1] [] fchp _ := ⟨⟨occhp, odchp, _, kVchp, dcchp, pmchp, anchp, cdchp, ctchp, slchp, rfl, lchp, cchp, .inr ⟨by simp, Tchp, _, [.int 1 tkT], nT, rfl, dchp, rfl, .cons ⟨tkT, rfl⟩ .nil⟩, .inl rfl⟩, kchp⟩
  obtain ⟨dsP, rdP, bchp⟩ := FD.binds1 (ps := ["people", "low"]) 2 1 (by simp) rfl fun _ _ _ _ _ _ _ us its hu hi => match us, its, hu, hi with | [_, _], [_], _, _ => ⟨_, rfl, rfl⟩
  obtain rfl : dsP = [] := by cases rdP; rfl
  refine ⟨PySem.W.fnOf "law" "law" (defArgs sLaw) (defBody sLaw) (defScope sLaw) .none kVlaw dclaw pmlaw anlaw cdlaw ctlaw, fun s v => .of_eq rfl, fun base _ _ => ?_⟩
  have Gci : FnOk l.prog w K mg base CX0 1 fci _ ["self", "most"] (spXI cC) := ok_ci Fci OcC nm_cC
  have Gti : FnOk l.prog w K mg base CX0 1 fti _ ["self", "most"] (spXI cT) := ok_ti Fti OcT nm_cT
  have Gni : FnOk l.prog w K mg base CX0 1 fni _ ["self", "low", "high"] (spNI cN) := ok_ni Fni Z
  have Gne : FnOk l.prog w K mg base CX0 1 fne _ ["self", "other"] (spNE cN) := ok_ne B Fne Z
  have Gckc : FnOk l.prog w K mg base (L2.CX l.prog w) 3 fckc _ ["count", "most"] (spCk cC) := ok_ckc (B := B) Fckc Dwh EcC Gci
  have Gckt : FnOk l.prog w K mg base (L2.CX l.prog w) 3 fckt _ ["total", "most"] (spCk cT) := ok_ckt (B := B) Fckt Dwh EcT Gti
  have Gchp : FnOk l.prog w K mg base (L2.CX l.prog w) 2 fchp _ ["people", "low"] (spChP cP) := ok_chp B FD Disw BP (PySem.W.mg_of X G mp)
  have Gnr : FnOk l.prog w K mg base CX0 1 fnr _ ["total", "people"] spRoom := ok_nr Fnr
  have Grt : FnOk l.prog w K mg base CX0 2 frt _ ["total", "count", "people"] spRT := ok_rt B Frt Dnr
  have Gpf : FnOk l.prog w K mg base (L2.CX l.prog w) 4 fpf _ ["count", "total", "people"] (spPF cP cC cT cN) := ok_pf B Fpf Dckc Gckc Dckt Gckt (PySem.W.mg_of X G achp) kchp bchp Gchp Drt Grt Dnr Gnr Z Gni
  have Ghand : FnOk l.prog w K mg base CX0 1 fhand _ ["_law_script"] (spHand K) := ok_hand B Fhand
  have GdrawL : FnOk l.prog w K mg base CX0 2 fdraw _ ["_law_hand_here", "_law_many"] spDrawL := ok_drawL B Fdraw Dmix
  have Gdraw : FnOk l.prog w K mg base CX0 2 fdraw _ ["_law_hand_here", "_law_many"] spDraw := ok_draw B Fdraw Dmix
  have Gpick : FnOk l.prog w K mg base CX0 3 fpick _ ["_law_hand_here", "_law_things"] (spPick K) := ok_pick B Fpick Ddraw Gdraw
  have Goddp : FnOk l.prog w K mg base CX0 4 foddp _ ["_law_hand_here"] spOddP := ok_oddp Foddp Dpick Gpick
  have Goddn : FnOk l.prog w K mg base CX0 4 foddn _ ["_law_hand_here", "_law_most"] spOddN := ok_oddn Foddn Dpick Gpick
  have Glw : FnOk l.prog w K mg base CX0 1 flw _ ["_law_thing"] spLW := ok_lw B Flw
  have Gcoins : FnOk l.prog w K mg base CX0 2 fcoins _ ["_law_thing"] spCoins := ok_coins B Fcoins Dlw
  have Gserv : FnOk l.prog w K mg base CX0 2 fserv _ ["_law_coins", "_law_people"] spServ := ok_serv B Fserv Dup
  have Ggreat : FnOk l.prog w K mg base CX0 2 fgreat _ ["_law_count", "_law_people"] spGreat := ok_great B Fgreat Dnext
  have Gright : FnOk l.prog w K mg base CX0 5 fright _ ["_law_count", "_law_total", "_law_people"] spRight := ok_right B Fright Dpf Gpf Dgreat Ggreat Dcoins Gcoins Dserv Gserv Dlw Glw Z Gni Gne
  have Gtold : FnOk l.prog w K mg base CX0 5 ftold _ ["_law_count", "_law_total", "_law_people"] spTold := ok_told Ftold Er Dpf Gpf
  have Geqr : FnOk l.prog w K mg base CX0 3 feqr _ ["_law_hand_here"] spEqR := ok_eqr Feqr Ddraw Gdraw Z Gni Gne
  have Grefr : FnOk l.prog w K mg base CX0 6 frefr _ ["_law_hand_here", "_law_people"] spRefR := ok_refr Frefr Ddraw Gdraw Doddn Goddn Doddp Goddp Dtold Gtold
  exact ok_law B Flaw Dhand Ghand Ddraw Gdraw GdrawL Dpick Gpick Dgreat Ggreat Dright Gright Deqr Geqr Drefr Grefr
end L2.K
open PySem PySem.W PyProof.Rows
set_option maxRecDepth 100000 in
set_option maxHeartbeats 0 in
theorem PySem.Challenge.cw_anyworths_k18_whole_pools_from_count_to_holds : PySem.Challenge.rw_anyworths_k18_whole_pools_from_count_to.Holds := by
  w_on; o_law; k_head; (case hw => w_witness2)
  k_fill
  refine L2.walk_of (l := PySem.Challenge.rw_anyworths_k18_whole_pools_from_count_to) (n := 63) (k := 7) (x := "_law_script") (CX := fun _ => L2.CX0) (sp := fun w => L2.K.spLaw _) rfl (by decide) rfl ⟨rfl, by decide, by decide⟩ (fun w h Y => PySem.W.kIn_of Y) ?F (fun _ _ a ns hl _ hS => ⟨a, ns, rfl, hS, hl, fun _ => rfl⟩) (fun _ _ _ _ _ h => h)
  case F =>
    intro w mg fa h KX G hmg
    refine' L2.K.all_mk KX G hmg ?gcP ?gcC ?gcT ?gcN ?xP ?xcC ?sacC ?gacC ?ggcC ?nm_cC ?hdcC ?xcT ?sacT ?gacT ?ggcT ?nm_cT ?hdcT ?kpcP ?excP ?tycP ?iscP ?kpcC ?excC ?tycC ?iscC ?kpcT ?excT ?tycT ?iscT ?sucCcC ?sucTcC ?sucTcT ?sucPcC ?sucPcT ?sucPcP ?pg ?hdN ?po ?saN ?nL ?nH ?mk ?kcN ?neN ?obN ?sN ?sT ?ca ?cg ?ct ?isN ?tyN ?sB ?sS ?tuN ?aci ?tci ?lci ?cci ?kci ?ati ?tti ?lti ?cti ?kti ?ani ?ini ?lni ?cni ?kni ?ane ?ine ?lne ?cne ?kne ?aisw ?lisw ?cisw ?kisw ?awh ?lwh ?cwh ?kwh ?ackc ?lckc ?cckc ?kckc ?ackt ?lckt ?cckt ?kckt ?anr ?lnr ?cnr ?knr ?art ?lrt ?crt ?krt ?apf ?lpf ?cpf ?kpf ?amix ?lmix ?cmix ?kmix ?ahand ?lhand ?chand ?khand ?adraw ?ldraw ?cdraw ?kdraw ?apick ?lpick ?cpick ?kpick ?alw ?llw ?clw ?klw ?acoins ?lcoins ?ccoins ?kcoins ?aup ?lup ?cup ?kup ?aserv ?lserv ?cserv ?kserv ?anext ?lnext ?cnext ?knext ?agreat ?lgreat ?cgreat ?kgreat ?aoddp ?loddp ?coddp ?koddp ?aoddn ?loddn ?coddn ?koddn ?atold ?ltold ?ctold ?ktold ?aright ?lright ?cright ?kright ?aeqr ?leqr ?ceqr ?keqr ?arefr ?lrefr ?crefr ?krefr ?alaw ?llaw ?claw ?klaw ?achp ?lchp ?cchp ?kchp ?dchp ?mp ?zisinstance ?zint ?zbool ?zrange ?zmin ?zmax ?ztuple ?zsorted ?zlist ?zenumerate ?zabs ?zlen ?zsum
    (case gcP => k_is); (case gcC => k_is); (case gcT => k_is); (case gcN => k_is); (case xP => k_exc); (case xcC => k_is)
    (case sacC => k_is); (case gacC => k_is); (case ggcC => k_is); (case nm_cC => k_is); (case hdcC => k_is); (case xcT => k_is)
    (case sacT => k_is); (case gacT => k_is); (case ggcT => k_is); (case nm_cT => k_is); (case hdcT => k_is); (case kpcP => k_is)
    (case excP => k_is); (case tycP => k_is); (case iscP => k_is); (case kpcC => k_is); (case excC => k_is); (case tycC => k_is)
    (case iscC => k_is); (case kpcT => k_is); (case excT => k_is); (case tycT => k_is); (case iscT => k_is); (case sucCcC => k_is)
    (case sucTcC => k_is); (case sucTcT => k_is); (case sucPcC => k_is); (case sucPcT => k_is); (case sucPcP => k_is); (case pg => k_is)
    (case hdN => k_is); (case po => k_is); (case saN => k_is); (case nL => k_is); (case nH => k_is); (case mk => k_is)
    (case kcN => k_is); (case neN => k_is); (case obN => k_is); (case sN => k_is); (case sT => k_is); (case ca => k_is)
    (case cg => k_is); (case ct => k_is); (case isN => k_is); (case tyN => k_is); (case sB => k_is); (case sS => k_is)
    (case tuN => k_is); (case aci => k_is); (case tci => k_is); (case lci => k_is); (case cci => k_is); (case kci => k_is)
    (case ati => k_is); (case tti => k_is); (case lti => k_is); (case cti => k_is); (case kti => k_is); (case ani => k_is)
    (case ini => k_is); (case lni => k_is); (case cni => k_is); (case kni => k_is); (case ane => k_is); (case ine => k_is)
    (case lne => k_is); (case cne => k_is); (case kne => k_is); (case aisw => k_is); (case lisw => k_is); (case cisw => k_is)
    (case kisw => k_is); (case awh => k_is); (case lwh => k_is); (case cwh => k_is); (case kwh => k_is); (case ackc => k_is)
    (case lckc => k_is); (case cckc => k_is); (case kckc => k_is); (case ackt => k_is); (case lckt => k_is); (case cckt => k_is)
    (case kckt => k_is); (case anr => k_is); (case lnr => k_is); (case cnr => k_is); (case knr => k_is); (case art => k_is)
    (case lrt => k_is); (case crt => k_is); (case krt => k_is); (case apf => k_is); (case lpf => k_is); (case cpf => k_is)
    (case kpf => k_is); (case amix => k_is); (case lmix => k_is); (case cmix => k_is); (case kmix => k_is); (case ahand => k_is)
    (case lhand => k_is); (case chand => k_is); (case khand => k_is); (case adraw => k_is); (case ldraw => k_is); (case cdraw => k_is)
    (case kdraw => k_is); (case apick => k_is); (case lpick => k_is); (case cpick => k_is); (case kpick => k_is); (case alw => k_is)
    (case llw => k_is); (case clw => k_is); (case klw => k_is); (case acoins => k_is); (case lcoins => k_is); (case ccoins => k_is)
    (case kcoins => k_is); (case aup => k_is); (case lup => k_is); (case cup => k_is); (case kup => k_is); (case aserv => k_is)
    (case lserv => k_is); (case cserv => k_is); (case kserv => k_is); (case anext => k_is); (case lnext => k_is); (case cnext => k_is)
    (case knext => k_is); (case agreat => k_is); (case lgreat => k_is); (case cgreat => k_is); (case kgreat => k_is); (case aoddp => k_is)
    (case loddp => k_is); (case coddp => k_is); (case koddp => k_is); (case aoddn => k_is); (case loddn => k_is); (case coddn => k_is)
    (case koddn => k_is); (case atold => k_is); (case ltold => k_is); (case ctold => k_is); (case ktold => k_is); (case aright => k_is)
    (case lright => k_is); (case cright => k_is); (case kright => k_is); (case aeqr => k_is); (case leqr => k_is); (case ceqr => k_is)
    (case keqr => k_is); (case arefr => k_is); (case lrefr => k_is); (case crefr => k_is); (case krefr => k_is); (case alaw => k_is)
    (case llaw => k_is); (case claw => k_is); (case klaw => k_is); (case achp => k_is); (case lchp => k_is); (case cchp => k_is)
    (case kchp => k_is); (case dchp => k_is); (case mp => k_is); (case zisinstance => k_is); (case zint => k_is); (case zbool => k_is)
    (case zrange => k_is); (case zmin => k_is); (case zmax => k_is); (case ztuple => k_is); (case zsorted => k_is); (case zlist => k_is)
    (case zenumerate => k_is); (case zabs => k_is); (case zlen => k_is); (case zsum => k_is)
