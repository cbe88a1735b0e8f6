import PyProof.Rows.All
import Wide.All
import OpenK.AllK
import Wide.FinOn
import KE.KStateDown
import HandS.ForMost
import HandS.ForExc
import HandS.Defaults
import HandS.Head0
import HandS.Head1
import HandS.Head2
import HandS.HeadEnd
import HandS.HeadHook1
import HandS.HeadHook2
import HandS.Evl
import HandS.Walk
import HandS.Style
import HandS.Flow
import HandS.Conv
import PyProof.DictMoreH
import HandS.IsInst
import HandS.Dict
import KE.KDictWalk
import KE.GoesMore
import HandS.ForExc
import HandS.ExcIs
import HandS.Deep
import PySem.Challenge.RW_quiethall_k04_refusals
set_option Elab.async false
set_option linter.all false
set_option maxRecDepth 100000
set_option maxHeartbeats 4000000
/-! Rules of calls by names, short operators. -/
namespace QH
open PySem PySem.Spec PyProof.Rows L2
abbrev rAddI : R2 := rI0 fun i j => .int (i + j)
abbrev rSubI : R2 := rI0 fun i j => .int (i - j)
abbrev rMulI : R2 := rI CMul fun i j => .int (i * j)
abbrev rModI : R2 := rI (fun _ j => 0 < j) fun i j => .int (i % j)
abbrev rDivI : R2 := rI CDiv fun i j => .int (i / j)
abbrev rShlI : R2 := rI CPow fun i j => .int (i * 2 ^ j.toNat)
abbrev rPowI : R2 := rI CPow fun i j => .int (i ^ j.toNat)
abbrev rLtI : R2 := rI0 fun i j => .bl (decide (i < j))
abbrev rLeI : R2 := rI0 fun i j => .bl (decide (i ≤ j))
abbrev rGtI : R2 := rI0 fun i j => .bl (decide (j < i))
abbrev rGeI : R2 := rI0 fun i j => .bl (decide (j ≤ i))
abbrev rNegI : V → Hp → VK → Prop := rU fun i => .int (-i)
abbrev rMax2 : List V → Hp → VK → Prop := fun xs H Q => ∃ i j, xs = [.int i, .int j] ∧ Q (.int (if j > i then j else i)) H
abbrev rLenS (K : PySem.W.Frag) : List V → Hp → VK → Prop := fun xs H Q => ∃ p ys, xs = [.ref p] ∧ (SqL K H p ys ∨ SqT K H p ys) ∧ Q (.int ys.length) H
abbrev rListS (K : PySem.W.Frag) : List V → Hp → VK → Prop := fun xs H Q => ∃ p ys, xs = [.ref p] ∧ (SqL K H p ys ∨ SqT K H p ys) ∧ ∀ l, H l = none → Q (.ref l) (upd H l (.lst ys))
abbrev rTupOf (K : PySem.W.Frag) : List V → Hp → VK → Prop := fun xs H Q => ∃ p ys, xs = [.ref p] ∧ ((SqL K H p ys ∧ ∀ l, H l = none → Q (.ref l) (upd H l (.tup ys))) ∨ (SqT K H p ys ∧ Q (.ref p) H))
abbrev rInt1 : List V → Hp → VK → Prop := fun xs H Q => (∃ i, xs = [.int i] ∧ Q (.int i) H) ∨ ∃ k, xs = [.bl k] ∧ Q (.int (if k then 1 else 0)) H
abbrev tTr (K : PySem.W.Frag) (ta : TE) : TT := fun σ H Q => ta σ H fun x H' => ∃ k, TruV K x H' k ∧ Q k H'
/-! ### calls by names -/
/-- a def of the top named x, by its promise -/
structure FOk (P : Program) (w : World) (K : PySem.W.Frag) (mg : Str → Option Value) (base : Heap) (x : Str) (ps : List Str) (lv : Nat) (sp : Sp) : Prop where
  gl : mg x = some (.ref (He.ga K x))
  fn : ∃ fd, FnOk P w K mg base CX0 lv (He.ga K x) fd ps sp ∧ Binds K fd ps []
  kp : PySem.W.keepIn K (.ref (He.ga K x)) = true
structure MOk (P : Program) (w : World) (K : PySem.W.Frag) (mg : Str → Option Value) (base : Heap) (C m : Str) (ps : List Str) (lv : Nat) (sp : Sp) : Prop where
  mt : Meth K (He.ga K C) m (He.ma K (He.ga K C) m)
  fn : ∃ fd, FnOk P w K mg base CX0 lv (He.ma K (He.ga K C) m) fd ps sp ∧ Binds K fd ps []
structure IOk (P : Program) (w : World) (K : PySem.W.Frag) (mg : Str → Option Value) (base : Heap) (C : Str) (ps : List Str) (lv : Nat) (sp : Sp) : Prop where
  fn : ∃ fd, FnOk P w K mg base CX0 lv (He.ma K (He.ga K C) "__init__") fd ps sp ∧ Binds K fd ps []
section
variable {X : Cx} {lv : Nat} {ps : List Str} {sp : Sp} {x m Cn : Str} {p pos apos : Pos} {e o : Expr} {es : List Expr} {ta : TE} {t : TA}
theorem pe_f (G : FOk X.prog X.w X.K X.mg X.base x ps lv sp) (hr : Room lv X.A) (hg : Gl X x) (ha : PA X (e :: es) t) (hdb : (x == ("__debug__" : Str)) = false := by decide)
    (he : starEach (e :: es) X.env = (false, eval e X.env) :: starEach es X.env := by rfl) (hpl : (backTo pos (starEach es X.env)).any (·.1) = false := by rfl) : PE X (.Call (.Name x p) (e :: es) [] pos) (tCall sp [] E0 t) := by
  obtain ⟨fd, F, b⟩ := G.fn
  exact pe_call F hr hg G.gl G.kp b .nil pass0 ha hdb he hpl
theorem pe_mk (M : Mk X.K (He.ga X.K x) (He.ma X.K (He.ga X.K x) "__init__")) (G : IOk X.prog X.w X.K X.mg X.base x ps lv sp) (hr : Room (lv + 1) X.A) (hg : Gl X x) (hm : X.mg x = some (.ref (He.ga X.K x))) (ha : PA X (e :: es) t) (hdb : (x == ("__debug__" : Str)) = false := by decide)
    (he : starEach (e :: es) X.env = (false, eval e X.env) :: starEach es X.env := by rfl) (hpl : (backTo pos (starEach es X.env)).any (·.1) = false := by rfl) : PE X (.Call (.Name x p) (e :: es) [] pos) (tMake (He.ga X.K x) sp [] E0 t) := by
  obtain ⟨fd, F, b⟩ := G.fn
  exact pe_make M F hr hg hm b .nil pass0 ha hdb he hpl
theorem pe_m {pl : Sem Bool} (he : PE X o ta) (c : Cls X.K (He.ga X.K Cn)) (G : MOk X.prog X.w X.K X.mg X.base Cn m ps lv sp) (hr : Room lv X.A) (ha : PA X (e :: es) t)
    (hst : starEach (e :: es) X.env = (false, eval e X.env) :: starEach es X.env := by rfl) (hpl : (backTo pos (starEach es X.env)).any (·.1) = false := by rfl)
    (ht : eval (.Call (.Attribute o m apos) (e :: es) [] pos) X.env = (do
      let ov ← eval o X.env
      standAt apos.atName
      let (f, first) ← holding [ov] (getMethod ov m pl)
      callWith pos f first (backTo pos (starEach (e :: es) X.env)) (backToKw pos (keywordEach [] X.env))) := by rfl) :
    PE X (.Call (.Attribute o m apos) (e :: es) [] pos) (tMeth (He.ga X.K Cn) m sp [] E0 ta t) := by
  obtain ⟨fd, F, b⟩ := G.fn
  exact pe_meth he c G.mt F hr b .nil pass0 ha hst hpl ht
theorem pe_m0 {pl : Sem Bool} (he : PE X o ta) (c : Cls X.K (He.ga X.K Cn)) (G : MOk X.prog X.w X.K X.mg X.base Cn m ps lv sp) (hr : Room lv X.A)
    (ht : eval (.Call (.Attribute o m apos) [] [] pos) X.env = (do
      let ov ← eval o X.env
      standAt apos.atName
      let (f, first) ← holding [ov] (getMethod ov m pl)
      callWith pos f first (backTo pos (starEach [] X.env)) (backToKw pos (keywordEach [] X.env))) := by rfl) :
    PE X (.Call (.Attribute o m apos) [] [] pos) (tMeth (He.ga X.K Cn) m sp [] E0 ta tNil) := by
  obtain ⟨fd, F, b⟩ := G.fn
  exact pe_meth0 he c G.mt F hr b .nil pass0 ht
end
/-! ### a def of the text, from its datum -/
abbrev Df (K : PySem.W.Frag) (x q : Str) (s : Stmt) (f : Addr) : Prop := ∃ fd, FunD K x q (defArgs s) (defBody s) (defScope s) [] [] f fd
theorem Df.kp {K : PySem.W.Frag} {x q : Str} {s : Stmt} {f : Addr} (D : Df K x q s f) : PySem.W.keepIn K (.ref f) = true := by
  obtain ⟨fd, F⟩ := D
  exact F.kp
section
variable {P : Program} {w : World} {K : PySem.W.Frag} {mg : Str → Option Value} {base : Heap}
/-- the general step from a body's reading to a promise kept -/
theorem fn_by {x q : Str} {s : Stmt} {f : Addr} {N ps : List Str} {k : Nat} {sp : Sp} {t : TS} (D : Df K x q s f) (S : FnScope N ps (defScope s)) (len : ∀ vs H Q E, sp vs H Q E → vs.length = ps.length)
    (bind : ∀ (kV doc pm : Value) (an : Option Addr) (cdv ct : Value) (us : List Value), us.length = ps.length → bindArgs (PySem.W.fnOf x q (defArgs s) (defBody s) (defScope s) .none kV doc pm an cdv ct) ⟨us, []⟩ = pure (ps.zip us))
    (der : ∀ (cdv : Value) (A : Around) (outer : List Env) (s0 : Shared) (H : Hp) (E : XK), Room k (A.deeper (envOfC q (defScope s) s0.heap.objs.size f cdv)) → PSs (cxOf CX0 P w K mg base N q (defScope s) f cdv A outer s0 H E).nox (defBody s) t)
    (pur : ∀ vs H Q E, sp vs H Q E → t { nx := fun _ H' => Q .non H', rt := Q } (start N vs) H) : ∃ fd, FnOk P w K mg base CX0 (k + 1) f fd ps sp ∧ Binds K fd ps [] := by
  obtain ⟨fd, F⟩ := D
  exact ⟨fd, F.ok S len fun cdv A outer s0 H vs Q E hr h => ⟨t, (der cdv A outer s0 H E hr).nox, pur vs H Q E h⟩, F.bindsN bind⟩
end
end QH

/-! The mirror: a hall as plain functions, its acts. -/
namespace QH
abbrev Wt := Nat × Nat
/-- a weight in its one form -/
def norm : Nat → Nat → Wt
  | u, 0 => if u = 0 then (0, 0) else (u, 0)
  | u, p + 1 => if u = 0 then (0, 0) else if u % 2 = 0 then norm (u / 2) p else (u, p + 1)
def half (w : Wt) : Wt := if w.1 = 0 then (0, 0) else norm w.1 (w.2 + 1)
def plus (a b : Wt) : Wt := norm (a.1 * 2 ^ (max a.2 b.2 - a.2) + b.1 * 2 ^ (max a.2 b.2 - b.2)) (max a.2 b.2)
def up {α : Type} (f : Nat → α) (i : Nat) (v : α) : Nat → α := fun j => if j = i then v else f j
def up2 {α : Type} (f : Nat → Nat → α) (i k : Nat) (v : α) : Nat → Nat → α := fun j l => if j = i ∧ l = k then v else f j l
theorem up_same {α : Type} {f : Nat → α} {i : Nat} {v : α} : up f i v i = v := by simp [up]
theorem up_ne {α : Type} {f : Nat → α} {i j : Nat} {v : α} (h : j ≠ i) : up f i v j = f j := by simp [up, h]
theorem up2_same {α : Type} {f : Nat → Nat → α} {i k : Nat} {v : α} : up2 f i k v i k = v := by simp [up2]
theorem up2_ne {α : Type} {f : Nat → Nat → α} {i k j l : Nat} {v : α} (h : ¬ (j = i ∧ l = k)) : up2 f i k v j l = f j l := by simp only [up2, if_neg h]
structure S where
  n : Nat
  busy : Nat → Bool
  rows : Nat → Nat → List Wt
  due : Nat → Int
  over : Nat → Option Nat
  slips : Nat → Nat → Int
  held : Nat → Wt
  hw : Nat → List Wt
  cnt : Nat → Int
  blk : Nat → Bool
  place : Nat
  sum : Int
  tb : Bool
  begun : Bool
  found : Bool
def S.init (n : Nat) : S where
  n := n
  busy := fun i => decide (i = 0)
  rows := fun _ _ => []
  due := fun _ => 0
  over := fun _ => none
  slips := fun _ _ => 0
  held := fun i => if i = 0 then (1, 0) else (0, 0)
  hw := fun _ => []
  cnt := fun _ => 0
  blk := fun _ => false
  place := 0
  sum := 0
  tb := false
  begun := false
  found := false
def S.isIn (s : S) (h : Nat) : Bool := decide (h = 0) || (s.over h).isSome
def S.slip (s : S) (a b : Nat) : S := { s with slips := up2 s.slips a b (s.slips a b + 1) }
def S.leaves (s : S) (h : Nat) (works : Bool) : Bool := decide (0 < h) && ((s.over h).isSome && (!works && decide (s.due h = 0)))
def S.settle (s : S) (h : Nat) (works : Bool) : S :=
  if s.leaves h works = true then { s with slips := up2 s.slips ((s.over h).getD 0) h (s.slips ((s.over h).getD 0) h + 1), over := up s.over h none } else s
def S.treeTaken (s : S) (a b : Nat) : S := if s.isIn b = true then s.slip a b else { s with over := up s.over b (some a) }
def S.treeSent (s : S) (a : Nat) : S := { s with due := up s.due a (s.due a + 1) }
def S.cameBack (s : S) (a b : Nat) : S := { s with slips := up2 s.slips a b (s.slips a b - 1), due := up s.due a (s.due a - 1) }
def S.split (s : S) (a : Nat) : S := { s with held := up s.held a (half (s.held a)) }
def S.add (s : S) (a : Nat) (w : Wt) : S := { s with held := up s.held a (plus (s.held a) w) }
def S.setRow (s : S) (a b : Nat) (l : List Wt) : S := { s with rows := up2 s.rows a b l }
def S.setBusy (s : S) (a : Nat) (b : Bool) : S := { s with busy := up s.busy a b }
def S.wRested (s : S) (a : Nat) : S := if 0 < a then { s with hw := up s.hw a (s.hw a ++ [s.held a]), held := up s.held a (0, 0) } else s
def S.cameHome (s : S) (a : Nat) : S := S.add { s with hw := up s.hw a (s.hw a).tail } 0 ((s.hw a).headD (0, 0))
def S.ringSent (s : S) (a : Nat) : S := { s with cnt := up s.cnt a (s.cnt a + 1) }
def S.ringTaken (s : S) (b : Nat) : S := { s with cnt := up s.cnt b (s.cnt b - 1), blk := up s.blk b true }
def S.clear0 (s : S) : Bool := s.begun && ((!s.tb && !s.blk 0) && decide (s.sum + s.cnt 0 = 0))
def S.passed (s : S) : S :=
  if s.place = 0 then { s with found := s.clear0 || s.found, begun := true, sum := 0, tb := false, place := s.n - 1, blk := up s.blk 0 false }
  else { s with sum := s.sum + s.cnt s.place, tb := s.blk s.place || s.tb, place := s.place - 1, blk := up s.blk s.place false }
inductive Act where
  | send (a b : Nat) | take (a b : Nat) | rest (a : Nat) | back (a b : Nat) | home (a : Nat) | pass
  deriving DecidableEq
def S.send (s : S) (a b : Nat) : S := (((s.split a).setRow a b (s.rows a b ++ [half (s.held a)])).treeSent a).ringSent a
def S.take (s : S) (a b : Nat) : S := ((((s.add b ((s.rows a b).headD (0, 0))).setRow a b (s.rows a b).tail).setBusy b true).treeTaken a b).ringTaken b
def S.rest (s : S) (a : Nat) : S := ((s.setBusy a false).wRested a).settle a false
def S.back (s : S) (a b : Nat) : S := (s.cameBack a b).settle a (s.busy a)
def S.step (s : S) : Act → S
  | .send a b => s.send a b
  | .take a b => s.take a b
  | .rest a => s.rest a
  | .back a b => s.back a b
  | .home a => s.cameHome a
  | .pass => s.passed
def Two (n a b : Nat) : Prop := a < n ∧ b < n ∧ a ≠ b
def S.Can (s : S) : Act → Prop
  | .send a b => Two s.n a b ∧ s.busy a = true
  | .take a b => Two s.n a b ∧ s.rows a b ≠ []
  | .rest a => a < s.n ∧ s.busy a = true
  | .back a b => Two s.n a b ∧ 0 < s.slips a b
  | .home a => 0 < a ∧ a < s.n ∧ s.hw a ≠ []
  | .pass => s.busy s.place = false
/-- what the walk asks of a weight -/
def Fit (w : Wt) : Prop := w.1 < 2 ^ 64 ∧ w.2 ≤ 1000
/-- what the walk asks of a hall -/
structure Good (s : S) : Prop where
  n2 : 2 ≤ s.n
  n6 : s.n ≤ 6
  pl : s.place < s.n
  ov : ∀ h, h < s.n → ∀ o, s.over h = some o → o < s.n
  hf : ∀ h, h < s.n → Fit (s.held h)
  rf : ∀ i j, i < s.n → j < s.n → ∀ w ∈ s.rows i j, Fit w
  wf : ∀ h, h < s.n → ∀ w ∈ s.hw h, Fit w
  rl : ∀ i j, i < s.n → j < s.n → (s.rows i j).length ≤ 90000
  wl : ∀ h, h < s.n → (s.hw h).length ≤ 90000
/-! ### roads, choices -/
def roads (n : Nat) : List (Nat × Nat) := (List.range n).flatMap fun i => ((List.range n).filter fun j => decide (i ≠ j)).map fun j => (i, j)
def S.working (s : S) : List Nat := (List.range s.n).filter fun h => s.busy h
def S.choices (s : S) (k : Int) : List Act :=
  if k < 3 then ((roads s.n).filter fun r => s.busy r.1).map fun r => .send r.1 r.2
  else if k < 6 then ((roads s.n).filter fun r => decide (0 < (s.rows r.1 r.2).length)).map fun r => .take r.1 r.2
  else if k < 9 then s.working.map .rest
  else if k < 11 then ((roads s.n).filter fun r => decide (0 < s.slips r.1 r.2)).map fun r => .back r.1 r.2
  else if k = 11 then (((List.range (s.n - 1)).map (· + 1)).filter fun h => decide (0 < (s.hw h).length)).map .home
  else if s.busy s.place = true then [] else [.pass]
def mix (c p m : Int) : Int := c * 48271 % p % m
def cell (ns : List Int) (k : Nat) : Int := ns.getD k 0
def many (ns : List Int) : Int := 2 + mix (cell ns 0) 9973 5
def S.some_ (s : S) (c : Int) : List Act := if s.choices (mix c 9967 14) = [] then s.choices (mix c 9949 14) else s.choices (mix c 9967 14)
def S.pick (s : S) (c : Int) : Option Act := if s.some_ c = [] then none else (s.some_ c)[(mix c 9941 (s.some_ c).length).toNat]?
theorem mem_roads {n : Nat} {r : Nat × Nat} : r ∈ roads n ↔ Two n r.1 r.2 := by
  obtain ⟨a, b⟩ := r
  simp only [roads, Two, List.mem_flatMap, List.mem_map, List.mem_filter, List.mem_range, decide_eq_true_eq]
  constructor
  · rintro ⟨i, hi, j, ⟨hj, hne⟩, e⟩
    cases e
    exact ⟨hi, hj, hne⟩
  · rintro ⟨h1, h2, h3⟩
    exact ⟨a, h1, b, ⟨h2, h3⟩, rfl⟩
theorem S.working_mem {s : S} {h : Nat} : h ∈ s.working ↔ h < s.n ∧ s.busy h = true := by
  simp [S.working]
theorem can_choices {s : S} {k : Int} {a : Act} (h : a ∈ s.choices k) : s.Can a := by
  unfold S.choices at h
  split at h
  · obtain ⟨r, hr, rfl⟩ := List.mem_map.mp h
    obtain ⟨h1, h2⟩ := List.mem_filter.mp hr
    exact ⟨mem_roads.mp h1, h2⟩
  · split at h
    · obtain ⟨r, hr, rfl⟩ := List.mem_map.mp h
      obtain ⟨h1, h2⟩ := List.mem_filter.mp hr
      refine ⟨mem_roads.mp h1, fun e => ?_⟩
      rw [e] at h2
      simp at h2
    · split at h
      · obtain ⟨r, hr, rfl⟩ := List.mem_map.mp h
        exact S.working_mem.mp hr
      · split at h
        · obtain ⟨r, hr, rfl⟩ := List.mem_map.mp h
          obtain ⟨h1, h2⟩ := List.mem_filter.mp hr
          exact ⟨mem_roads.mp h1, by simpa using h2⟩
        · split at h
          · obtain ⟨r, hr, rfl⟩ := List.mem_map.mp h
            obtain ⟨h1, h2⟩ := List.mem_filter.mp hr
            obtain ⟨k, hk, e⟩ := List.mem_map.mp h1
            have hk := List.mem_range.mp hk
            refine ⟨by omega, by omega, fun e => ?_⟩
            rw [e] at h2
            simp at h2
          · split at h
            · cases h
            · cases List.mem_singleton.mp h
              rename_i hb
              show s.busy s.place = false
              simpa using hb
theorem can_pick {s : S} {c : Int} {a : Act} (h : s.pick c = some a) : s.Can a := by
  unfold S.pick at h
  split at h
  · cases h
  · have hm := List.mem_of_getElem? h
    unfold S.some_ at hm
    split at hm <;> exact can_choices hm
theorem mix_bounds {c p m : Int} (hp : 0 < p) (hm : 0 < m) : 0 ≤ mix c p m ∧ mix c p m < m := ⟨Int.emod_nonneg _ (by omega), Int.emod_lt_of_pos _ hm⟩
theorem many_bounds (ns : List Int) : 2 ≤ many ns ∧ many ns ≤ 6 := by
  have := mix_bounds (c := cell ns 0) (p := 9973) (m := 5) (by decide) (by decide)
  unfold many
  omega
/-- a nodup list of numbers below n is no longer than n -/
theorem nodup_below : ∀ {n : Nat} {l : List Nat}, l.Nodup → (∀ x ∈ l, x < n) → l.length ≤ n
  | 0, l, _, h => by
    cases l with
    | nil => exact Nat.le_refl _
    | cons a r => exact absurd (h a List.mem_cons_self) (by omega)
  | n + 1, l, hn, h => by
    have h1 : (l.erase n).Nodup := hn.erase n
    have h2 : ∀ x ∈ l.erase n, x < n := fun x hx => by
      have h3 := (hn.mem_erase_iff).mp hx
      have := h x h3.2
      omega
    have h3 := nodup_below h1 h2
    have h4 : l.length ≤ (l.erase n).length + 1 := by
      rw [List.length_erase]
      split <;> omega
    omega
end QH

/-! A hall in the heap. -/
namespace QH
open PySem PySem.Spec PyProof.Rows L2 Evl
def vec {α : Type} (n : Nat) (f : Nat → α) : List α := (List.range n).map f
theorem vec_len {α : Type} {n : Nat} {f : Nat → α} : (vec n f).length = n := by simp [vec]
theorem vec_get {α : Type} {n i : Nat} {f : Nat → α} (h : i < n) : (vec n f)[i]? = some (f i) := by simp [vec, h]
theorem vec_set {α : Type} {n i : Nat} {f : Nat → α} {v : α} (h : i < n) : (vec n f).set i v = vec n (up f i v) := by
  apply List.ext_getElem?
  intro j
  by_cases hj : j < n
  · rw [vec_get hj]
    by_cases e : j = i
    · subst e
      rw [List.getElem?_set_self (by rw [vec_len]; exact hj), up_same]
    · rw [List.getElem?_set_ne (Ne.symm e), vec_get hj, up_ne e]
  · rw [List.getElem?_eq_none (by rw [List.length_set, vec_len]; omega), List.getElem?_eq_none (by rw [vec_len]; omega)]
theorem vec_ext {α : Type} {n : Nat} {f g : Nat → α} (h : ∀ i, i < n → f i = g i) : vec n f = vec n g := by
  unfold vec
  exact List.map_congr_left fun i hi => h i (List.mem_range.mp hi)
theorem vec_succ {α : Type} {n : Nat} {f : Nat → α} : vec (n + 1) f = vec n f ++ [f n] := by
  unfold vec
  rw [List.range_succ, List.map_append]
  rfl
/-! ### keys -/
def key (i j : Nat) : List Key := [Sum.inl (i : Int), Sum.inl (j : Int)]
theorem key_inj {i j k l : Nat} : key i j = key k l ↔ i = k ∧ j = l := by
  unfold key
  constructor
  · intro h
    simp only [List.cons.injEq, Sum.inl.injEq, and_true] at h
    omega
  · rintro ⟨rfl, rfl⟩
    rfl
theorem key_map {i j : Nat} : (key i j).map kV = [.int i, .int j] := rfl
structure Keyed (n : Nat) (kvs : List (List Key × V)) : Prop where
  nd : (kvs.map (·.1)).Nodup
  ks : ∀ kv ∈ kvs, ∃ i j, i < n ∧ j < n ∧ kv.1 = key i j
def unkey : List Key → Nat
  | [Sum.inl a, Sum.inl b] => a.toNat * 6 + b.toNat
  | _ => 0
theorem unkey_key {i j : Nat} : unkey (key i j) = i * 6 + j := by simp [unkey, key]
theorem map_nodup {α β : Type} {f : α → β} : ∀ {l : List α}, (∀ x ∈ l, ∀ y ∈ l, f x = f y → x = y) → l.Nodup → (l.map f).Nodup
  | [], _, _ => List.nodup_nil
  | a :: r, hi, hn => by
    obtain ⟨h1, h2⟩ := List.nodup_cons.mp hn
    rw [List.map_cons]
    refine List.nodup_cons.mpr ⟨fun m => ?_, map_nodup (fun x hx y hy e => hi x (List.mem_cons_of_mem _ hx) y (List.mem_cons_of_mem _ hy) e) h2⟩
    obtain ⟨y, hy, e⟩ := List.mem_map.mp m
    have := hi y (List.mem_cons_of_mem _ hy) a List.mem_cons_self e
    exact h1 (this ▸ hy)
theorem Keyed.len {n : Nat} {kvs : List (List Key × V)} (h : Keyed n kvs) (hn : n ≤ 6) : kvs.length ≤ 36 := by
  have h1 : ((kvs.map (·.1)).map unkey).Nodup := by
    refine map_nodup (fun x hx y hy e => ?_) h.nd
    obtain ⟨a, ha, rfl⟩ := List.mem_map.mp hx
    obtain ⟨b, hb, rfl⟩ := List.mem_map.mp hy
    obtain ⟨i, j, hi, hj, e1⟩ := h.ks a ha
    obtain ⟨k, l, hk, hl, e2⟩ := h.ks b hb
    rw [e1, e2, unkey_key, unkey_key] at e
    rw [e1, e2]
    exact key_inj.mpr ⟨by omega, by omega⟩
  have h2 := nodup_below (n := 36) h1 fun x hx => by
    obtain ⟨y, hy, rfl⟩ := List.mem_map.mp hx
    obtain ⟨a, ha, rfl⟩ := List.mem_map.mp hy
    obtain ⟨i, j, hi, hj, e1⟩ := h.ks a ha
    rw [e1, unkey_key]
    omega
  rw [List.length_map, List.length_map] at h2
  exact h2
theorem putK_old {κ : Type} [DecidableEq κ] {kvs : List (κ × V)} {k : κ} {v w : V} (h : valV kvs k = some w) : (putK kvs k v).map (·.1) = kvs.map (·.1) := by
  have q : (kvs.any fun kv => decide (kv.1 = k)) = true := by rw [valV_any, h]; rfl
  unfold putK
  rw [if_pos q, List.map_map]
  refine List.map_congr_left fun kv _ => ?_
  show (if kv.1 = k then (kv.1, v) else kv).1 = kv.1
  split <;> rfl
theorem Keyed.put {n i j : Nat} {kvs : List (List Key × V)} {v : V} (h : Keyed n kvs) (hi : i < n) (hj : j < n) : Keyed n (putK kvs (key i j) v) := by
  cases e : valV kvs (key i j) with
  | none =>
    refine ⟨nd_putK v h.nd e, fun kv hkv => ?_⟩
    rw [putK_new v e] at hkv
    rcases List.mem_append.mp hkv with z | z
    · exact h.ks kv z
    · cases List.mem_singleton.mp z
      exact ⟨i, j, hi, hj, rfl⟩
  | some w =>
    have e1 := putK_old (v := v) e
    refine ⟨by rw [e1]; exact h.nd, fun kv hkv => ?_⟩
    have : kv.1 ∈ (putK kvs (key i j) v).map (·.1) := List.mem_map_of_mem hkv
    rw [e1] at this
    obtain ⟨kw, hk, e2⟩ := List.mem_map.mp this
    obtain ⟨a, b, ha, hb, e3⟩ := h.ks kw hk
    exact ⟨a, b, ha, hb, by rw [← e2, e3]⟩
theorem Keyed.nil {n : Nat} : Keyed n [] := ⟨List.nodup_nil, fun kv h => by cases h⟩
theorem valV_of_mem {κ : Type} [DecidableEq κ] : ∀ {kvs : List (κ × V)} {kv : κ × V}, (kvs.map (·.1)).Nodup → kv ∈ kvs → valV kvs kv.1 = some kv.2
  | p :: r, kv, hn, hm => by
    obtain ⟨h1, h2⟩ := List.nodup_cons.mp (show (p.1 :: r.map (·.1)).Nodup from hn)
    rcases List.mem_cons.mp hm with rfl | hm
    · exact valV_pos rfl
    · have : ¬ p.1 = kv.1 := fun e => h1 (e ▸ List.mem_map_of_mem hm)
      rw [valV_neg this]
      exact valV_of_mem h2 hm
/-! ### weights in the heap -/
def wT (w : Wt) : List V := [.int w.1, .int w.2]
def WV (Z : Addr → Prop) (H : Hp) (v : V) (w : Wt) : Prop := ∃ q, v = .ref q ∧ Z q ∧ H q = some (.tup (wT w))
def WLs (Z : Addr → Prop) (H : Hp) : List V → List Wt → Prop
  | [], [] => True
  | v :: vs, w :: ws => WV Z H v w ∧ WLs Z H vs ws
  | _, _ => False
def RowAt (Z : Addr → Prop) (H : Hp) (o : Option V) (ws : List Wt) : Prop := match o with
  | none => ws = []
  | some v => ∃ l vs, v = .ref l ∧ Z l ∧ H l = some (.lst vs) ∧ WLs Z H vs ws
section
variable {Z : Addr → Prop} {H H' : Hp}
theorem WV.keep {v : V} {w : Wt} (h : WV Z H v w) (k : ∀ a o, H a = some o → Z a → H' a = some o) : WV Z H' v w := by
  obtain ⟨q, e, z, h⟩ := h
  exact ⟨q, e, z, k q _ h z⟩
theorem WLs.keep : ∀ {vs : List V} {ws : List Wt}, WLs Z H vs ws → (∀ a o, H a = some o → Z a → H' a = some o) → WLs Z H' vs ws
  | [], [], _, _ => trivial
  | _ :: _, _ :: _, h, k => ⟨h.1.keep k, h.2.keep k⟩
  | [], _ :: _, h, _ => h.elim
  | _ :: _, [], h, _ => h.elim
theorem WLs.len : ∀ {vs : List V} {ws : List Wt}, WLs Z H vs ws → vs.length = ws.length
  | [], [], _ => rfl
  | _ :: _, _ :: _, h => congrArg Nat.succ h.2.len
  | [], _ :: _, h => h.elim
  | _ :: _, [], h => h.elim
theorem WLs.snoc : ∀ {vs : List V} {ws : List Wt} {v : V} {w : Wt}, WLs Z H vs ws → WV Z H v w → WLs Z H (vs ++ [v]) (ws ++ [w])
  | [], [], _, _, _, hv => ⟨hv, trivial⟩
  | _ :: _, _ :: _, _, _, h, hv => ⟨h.1, h.2.snoc hv⟩
  | [], _ :: _, _, _, h, _ => h.elim
  | _ :: _, [], _, _, h, _ => h.elim
theorem WLs.get : ∀ {vs : List V} {ws : List Wt} {i : Nat} {w : Wt}, WLs Z H vs ws → ws[i]? = some w → ∃ v, vs[i]? = some v ∧ WV Z H v w
  | [], [], i, w, _, e => by simp at e
  | v :: _, w' :: _, 0, w, h, e => by
    have : w' = w := Option.some.inj e
    subst this
    exact ⟨v, rfl, h.1⟩
  | _ :: _, _ :: _, i + 1, w, h, e => WLs.get (i := i) h.2 e
  | [], _ :: _, _, _, h, _ => h.elim
  | _ :: _, [], _, _, h, _ => h.elim
theorem RowAt.keep {o : Option V} {ws : List Wt} (h : RowAt Z H o ws) (k : ∀ a o, H a = some o → Z a → H' a = some o) : RowAt Z H' o ws := by
  cases o with
  | none => exact h
  | some v =>
    obtain ⟨l, vs, e, z, h1, h2⟩ := h
    exact ⟨l, vs, e, z, k l _ h1 z, h2.keep k⟩
end
/-! ### the addresses -/
structure Ad where
  (p busy rows tree due over slips sc held hw ring cnt col dx tdx sdx rdx : Addr)
  hl : Nat → Addr
  R : Addr → Nat
structure Ad.Ok (A : Ad) (n : Nat) : Prop where
  r_p : A.R A.p = 1
  r_busy : A.R A.busy = 2
  r_rows : A.R A.rows = 3
  r_tree : A.R A.tree = 4
  r_due : A.R A.due = 5
  r_over : A.R A.over = 6
  r_slips : A.R A.slips = 7
  r_sc : A.R A.sc = 8
  r_held : A.R A.held = 9
  r_hw : A.R A.hw = 10
  r_ring : A.R A.ring = 11
  r_cnt : A.R A.cnt = 12
  r_col : A.R A.col = 13
  r_hl : ∀ i, i < n → A.R (A.hl i) = 14 + i
  own : ∀ a, A.R a ≠ 0 → a ∈ [A.p, A.busy, A.rows, A.tree, A.due, A.over, A.slips, A.sc, A.held, A.hw, A.ring, A.cnt, A.col] ∨ ∃ i, i < n ∧ a = A.hl i
def hallF (n : Nat) (b r t s g : Addr) : List (Str × V) := [("many", .int n), ("busy", .ref b), ("rows", .ref r), ("tree", .ref t), ("scales", .ref s), ("ring", .ref g)]
def treeF (d o s : Addr) : List (Str × V) := [("due", .ref d), ("over", .ref o), ("slips", .ref s)]
def scF (h w : Addr) : List (Str × V) := [("held", .ref h), ("homeward", .ref w)]
def colS (b : Bool) : V := .str (if b then "black" else "white")
def ringF (n : Nat) (c k : Addr) (pl : Nat) (sm : Int) (tb bg fd : Bool) : List (Str × V) :=
  [("many", .int n), ("counts", .ref c), ("colours", .ref k), ("place", .int pl), ("sum", .int sm), ("colour", colS tb), ("begun", .bl bg), ("found", .bl fd)]
def ovV : Option Nat → V
  | none => .non
  | some i => .int i
structure HallAt (K : PySem.W.Frag) (Z : Addr → Prop) (H : Hp) (A : Ad) (s : S) : Prop where
  ok : A.Ok s.n
  zr : ∀ a, Z a → A.R a = 0
  zf : ∀ a, H a = none → Z a
  p : H A.p = some (.ins (He.ga K "Hall") A.dx (hallF s.n A.busy A.rows A.tree A.sc A.ring))
  busy : H A.busy = some (.lst (vec s.n fun i => .bl (s.busy i)))
  rows : ∃ kvs, H A.rows = some (.dT kvs) ∧ Keyed s.n kvs ∧ ∀ i j, i < s.n → j < s.n → RowAt Z H (valV kvs (key i j)) (s.rows i j)
  tree : H A.tree = some (.ins (He.ga K "Tree") A.tdx (treeF A.due A.over A.slips))
  due : H A.due = some (.lst (vec s.n fun i => .int (s.due i)))
  over : H A.over = some (.lst (vec s.n fun i => ovV (s.over i)))
  slips : ∃ kvs, H A.slips = some (.dT kvs) ∧ Keyed s.n kvs ∧ ∀ i j, i < s.n → j < s.n → (valV kvs (key i j)).getD (.int 0) = .int (s.slips i j)
  sc : H A.sc = some (.ins (He.ga K "Weights") A.sdx (scF A.held A.hw))
  held : ∃ hv : Nat → V, H A.held = some (.lst (vec s.n hv)) ∧ ∀ i, i < s.n → WV Z H (hv i) (s.held i)
  hw : H A.hw = some (.lst (vec s.n fun i => .ref (A.hl i)))
  hl : ∀ i, i < s.n → ∃ vs, H (A.hl i) = some (.lst vs) ∧ WLs Z H vs (s.hw i)
  ring : H A.ring = some (.ins (He.ga K "Ring") A.rdx (ringF s.n A.cnt A.col s.place s.sum s.tb s.begun s.found))
  cnt : H A.cnt = some (.lst (vec s.n fun i => .int (s.cnt i)))
  col : H A.col = some (.lst (vec s.n fun i => colS (s.blk i)))
/-- all but the hall's own is kept -/
def Kp (A : Ad) (H H' : Hp) : Prop := ∀ a o, H a = some o → A.R a = 0 → H' a = some o
theorem Kp.refl {A : Ad} {H : Hp} : Kp A H H := fun _ _ h _ => h
theorem Kp.trans {A : Ad} {H H1 H2 : Hp} (h : Kp A H H1) (k : Kp A H1 H2) : Kp A H H2 := fun a o e z => k a o (h a o e z) z
theorem Kp.ex {A : Ad} {H H1 : Hp} (h : Ex H H1) : Kp A H H1 := fun a o e _ => h a o e
theorem ne_R {A : Ad} {a b : Addr} (h : A.R a ≠ A.R b) : a ≠ b := fun e => h (by rw [e])
theorem none_upd {H : Hp} {x a : Addr} {o : HO} (h : upd H x o a = none) : H a = none := by
  by_cases e : a = x
  · subst e
    rw [upd_same] at h
    cases h
  · rw [upd_ne e] at h
    exact h
theorem Kp.upd {A : Ad} {H : Hp} {x : Addr} {o : HO} (h : A.R x ≠ 0) : Kp A H (upd H x o) := fun a u e z => by
  rw [upd_ne (ne_R (A := A) (by rw [z]; exact Ne.symm h))]
  exact e
section
variable {K : PySem.W.Frag} {Z : Addr → Prop} {H H' : Hp} {A : Ad} {s : S}
theorem HallAt.mono (h : HallAt K Z H A s) (e : Ex H H') : HallAt K Z H' A s where
  ok := h.ok
  zr := h.zr
  zf := fun a n => h.zf a (fresh_back e n)
  p := e _ _ h.p
  busy := e _ _ h.busy
  rows := let ⟨kvs, h1, h2, h3⟩ := h.rows; ⟨kvs, e _ _ h1, h2, fun i j hi hj => (h3 i j hi hj).keep fun a o q _ => e a o q⟩
  tree := e _ _ h.tree
  due := e _ _ h.due
  over := e _ _ h.over
  slips := let ⟨kvs, h1, h2⟩ := h.slips; ⟨kvs, e _ _ h1, h2⟩
  sc := e _ _ h.sc
  held := let ⟨hv, h1, h2⟩ := h.held; ⟨hv, e _ _ h1, fun i hi => (h2 i hi).keep fun a o q _ => e a o q⟩
  hw := e _ _ h.hw
  hl := fun i hi => let ⟨vs, h1, h2⟩ := h.hl i hi; ⟨vs, e _ _ h1, h2.keep fun a o q _ => e a o q⟩
  ring := e _ _ h.ring
  cnt := e _ _ h.cnt
  col := e _ _ h.col
theorem HallAt.zk (h : HallAt K Z H A s) {x : Addr} {o : HO} (hx : A.R x ≠ 0) : ∀ a u, H a = some u → Z a → upd H x o a = some u := fun a u e z => by
  rw [upd_ne (ne_R (A := A) (by rw [h.zr a z]; exact Ne.symm hx))]
  exact e
theorem at_ne {x a : Addr} {o u : HO} (n : A.R a ≠ A.R x) (e : H a = some u) : upd H x o a = some u := by
  rw [upd_ne (ne_R n)]
  exact e

theorem HallAt.set_busy (h : HallAt K Z H A s) (f : Nat → Bool) : HallAt K Z (L2.upd H A.busy (.lst (vec s.n fun i => .bl (f i)))) A { s with busy := f } := by
  have rx : A.R A.busy = 2 := h.ok.r_busy
  have nz : A.R A.busy ≠ 0 := by rw [rx]; omega
  have kz := h.zk (o := (.lst (vec s.n fun i => .bl (f i)))) nz
  exact {
    ok := h.ok, zr := h.zr, zf := fun a n => h.zf a (none_upd n)
    p := at_ne (by rw [rx, h.ok.r_p]; omega) h.p
    busy := upd_same
    rows := let ⟨kvs, h1, h2, h3⟩ := h.rows; ⟨kvs, at_ne (by rw [rx, h.ok.r_rows]; omega) h1, h2, fun i j hi hj => (h3 i j hi hj).keep kz⟩
    tree := at_ne (by rw [rx, h.ok.r_tree]; omega) h.tree
    due := at_ne (by rw [rx, h.ok.r_due]; omega) h.due
    over := at_ne (by rw [rx, h.ok.r_over]; omega) h.over
    slips := let ⟨kvs, h1, h2⟩ := h.slips; ⟨kvs, at_ne (by rw [rx, h.ok.r_slips]; omega) h1, h2⟩
    sc := at_ne (by rw [rx, h.ok.r_sc]; omega) h.sc
    held := let ⟨hv, h1, h2⟩ := h.held; ⟨hv, at_ne (by rw [rx, h.ok.r_held]; omega) h1, fun i hi => (h2 i hi).keep kz⟩
    hw := at_ne (by rw [rx, h.ok.r_hw]; omega) h.hw
    ring := at_ne (by rw [rx, h.ok.r_ring]; omega) h.ring
    cnt := at_ne (by rw [rx, h.ok.r_cnt]; omega) h.cnt
    col := at_ne (by rw [rx, h.ok.r_col]; omega) h.col
    hl := fun i hi => let ⟨vs, h1, h2⟩ := h.hl i hi; ⟨vs, at_ne (by rw [rx, h.ok.r_hl i hi]; omega) h1, h2.keep kz⟩
  }
theorem HallAt.set_due (h : HallAt K Z H A s) (f : Nat → Int) : HallAt K Z (L2.upd H A.due (.lst (vec s.n fun i => .int (f i)))) A { s with due := f } := by
  have rx : A.R A.due = 5 := h.ok.r_due
  have nz : A.R A.due ≠ 0 := by rw [rx]; omega
  have kz := h.zk (o := (.lst (vec s.n fun i => .int (f i)))) nz
  exact {
    ok := h.ok, zr := h.zr, zf := fun a n => h.zf a (none_upd n)
    p := at_ne (by rw [rx, h.ok.r_p]; omega) h.p
    busy := at_ne (by rw [rx, h.ok.r_busy]; omega) h.busy
    rows := let ⟨kvs, h1, h2, h3⟩ := h.rows; ⟨kvs, at_ne (by rw [rx, h.ok.r_rows]; omega) h1, h2, fun i j hi hj => (h3 i j hi hj).keep kz⟩
    tree := at_ne (by rw [rx, h.ok.r_tree]; omega) h.tree
    due := upd_same
    over := at_ne (by rw [rx, h.ok.r_over]; omega) h.over
    slips := let ⟨kvs, h1, h2⟩ := h.slips; ⟨kvs, at_ne (by rw [rx, h.ok.r_slips]; omega) h1, h2⟩
    sc := at_ne (by rw [rx, h.ok.r_sc]; omega) h.sc
    held := let ⟨hv, h1, h2⟩ := h.held; ⟨hv, at_ne (by rw [rx, h.ok.r_held]; omega) h1, fun i hi => (h2 i hi).keep kz⟩
    hw := at_ne (by rw [rx, h.ok.r_hw]; omega) h.hw
    ring := at_ne (by rw [rx, h.ok.r_ring]; omega) h.ring
    cnt := at_ne (by rw [rx, h.ok.r_cnt]; omega) h.cnt
    col := at_ne (by rw [rx, h.ok.r_col]; omega) h.col
    hl := fun i hi => let ⟨vs, h1, h2⟩ := h.hl i hi; ⟨vs, at_ne (by rw [rx, h.ok.r_hl i hi]; omega) h1, h2.keep kz⟩
  }
theorem HallAt.set_over (h : HallAt K Z H A s) (f : Nat → Option Nat) : HallAt K Z (L2.upd H A.over (.lst (vec s.n fun i => ovV (f i)))) A { s with over := f } := by
  have rx : A.R A.over = 6 := h.ok.r_over
  have nz : A.R A.over ≠ 0 := by rw [rx]; omega
  have kz := h.zk (o := (.lst (vec s.n fun i => ovV (f i)))) nz
  exact {
    ok := h.ok, zr := h.zr, zf := fun a n => h.zf a (none_upd n)
    p := at_ne (by rw [rx, h.ok.r_p]; omega) h.p
    busy := at_ne (by rw [rx, h.ok.r_busy]; omega) h.busy
    rows := let ⟨kvs, h1, h2, h3⟩ := h.rows; ⟨kvs, at_ne (by rw [rx, h.ok.r_rows]; omega) h1, h2, fun i j hi hj => (h3 i j hi hj).keep kz⟩
    tree := at_ne (by rw [rx, h.ok.r_tree]; omega) h.tree
    due := at_ne (by rw [rx, h.ok.r_due]; omega) h.due
    over := upd_same
    slips := let ⟨kvs, h1, h2⟩ := h.slips; ⟨kvs, at_ne (by rw [rx, h.ok.r_slips]; omega) h1, h2⟩
    sc := at_ne (by rw [rx, h.ok.r_sc]; omega) h.sc
    held := let ⟨hv, h1, h2⟩ := h.held; ⟨hv, at_ne (by rw [rx, h.ok.r_held]; omega) h1, fun i hi => (h2 i hi).keep kz⟩
    hw := at_ne (by rw [rx, h.ok.r_hw]; omega) h.hw
    ring := at_ne (by rw [rx, h.ok.r_ring]; omega) h.ring
    cnt := at_ne (by rw [rx, h.ok.r_cnt]; omega) h.cnt
    col := at_ne (by rw [rx, h.ok.r_col]; omega) h.col
    hl := fun i hi => let ⟨vs, h1, h2⟩ := h.hl i hi; ⟨vs, at_ne (by rw [rx, h.ok.r_hl i hi]; omega) h1, h2.keep kz⟩
  }
theorem HallAt.set_cnt (h : HallAt K Z H A s) (f : Nat → Int) : HallAt K Z (L2.upd H A.cnt (.lst (vec s.n fun i => .int (f i)))) A { s with cnt := f } := by
  have rx : A.R A.cnt = 12 := h.ok.r_cnt
  have nz : A.R A.cnt ≠ 0 := by rw [rx]; omega
  have kz := h.zk (o := (.lst (vec s.n fun i => .int (f i)))) nz
  exact {
    ok := h.ok, zr := h.zr, zf := fun a n => h.zf a (none_upd n)
    p := at_ne (by rw [rx, h.ok.r_p]; omega) h.p
    busy := at_ne (by rw [rx, h.ok.r_busy]; omega) h.busy
    rows := let ⟨kvs, h1, h2, h3⟩ := h.rows; ⟨kvs, at_ne (by rw [rx, h.ok.r_rows]; omega) h1, h2, fun i j hi hj => (h3 i j hi hj).keep kz⟩
    tree := at_ne (by rw [rx, h.ok.r_tree]; omega) h.tree
    due := at_ne (by rw [rx, h.ok.r_due]; omega) h.due
    over := at_ne (by rw [rx, h.ok.r_over]; omega) h.over
    slips := let ⟨kvs, h1, h2⟩ := h.slips; ⟨kvs, at_ne (by rw [rx, h.ok.r_slips]; omega) h1, h2⟩
    sc := at_ne (by rw [rx, h.ok.r_sc]; omega) h.sc
    held := let ⟨hv, h1, h2⟩ := h.held; ⟨hv, at_ne (by rw [rx, h.ok.r_held]; omega) h1, fun i hi => (h2 i hi).keep kz⟩
    hw := at_ne (by rw [rx, h.ok.r_hw]; omega) h.hw
    ring := at_ne (by rw [rx, h.ok.r_ring]; omega) h.ring
    cnt := upd_same
    col := at_ne (by rw [rx, h.ok.r_col]; omega) h.col
    hl := fun i hi => let ⟨vs, h1, h2⟩ := h.hl i hi; ⟨vs, at_ne (by rw [rx, h.ok.r_hl i hi]; omega) h1, h2.keep kz⟩
  }
theorem HallAt.set_col (h : HallAt K Z H A s) (f : Nat → Bool) : HallAt K Z (L2.upd H A.col (.lst (vec s.n fun i => colS (f i)))) A { s with blk := f } := by
  have rx : A.R A.col = 13 := h.ok.r_col
  have nz : A.R A.col ≠ 0 := by rw [rx]; omega
  have kz := h.zk (o := (.lst (vec s.n fun i => colS (f i)))) nz
  exact {
    ok := h.ok, zr := h.zr, zf := fun a n => h.zf a (none_upd n)
    p := at_ne (by rw [rx, h.ok.r_p]; omega) h.p
    busy := at_ne (by rw [rx, h.ok.r_busy]; omega) h.busy
    rows := let ⟨kvs, h1, h2, h3⟩ := h.rows; ⟨kvs, at_ne (by rw [rx, h.ok.r_rows]; omega) h1, h2, fun i j hi hj => (h3 i j hi hj).keep kz⟩
    tree := at_ne (by rw [rx, h.ok.r_tree]; omega) h.tree
    due := at_ne (by rw [rx, h.ok.r_due]; omega) h.due
    over := at_ne (by rw [rx, h.ok.r_over]; omega) h.over
    slips := let ⟨kvs, h1, h2⟩ := h.slips; ⟨kvs, at_ne (by rw [rx, h.ok.r_slips]; omega) h1, h2⟩
    sc := at_ne (by rw [rx, h.ok.r_sc]; omega) h.sc
    held := let ⟨hv, h1, h2⟩ := h.held; ⟨hv, at_ne (by rw [rx, h.ok.r_held]; omega) h1, fun i hi => (h2 i hi).keep kz⟩
    hw := at_ne (by rw [rx, h.ok.r_hw]; omega) h.hw
    ring := at_ne (by rw [rx, h.ok.r_ring]; omega) h.ring
    cnt := at_ne (by rw [rx, h.ok.r_cnt]; omega) h.cnt
    col := upd_same
    hl := fun i hi => let ⟨vs, h1, h2⟩ := h.hl i hi; ⟨vs, at_ne (by rw [rx, h.ok.r_hl i hi]; omega) h1, h2.keep kz⟩
  }
theorem HallAt.set_ring (h : HallAt K Z H A s) (pl : Nat) (sm : Int) (tb bg fd : Bool) : HallAt K Z (L2.upd H A.ring (.ins (He.ga K "Ring") A.rdx (ringF s.n A.cnt A.col pl sm tb bg fd))) A { s with place := pl, sum := sm, tb := tb, begun := bg, found := fd } := by
  have rx : A.R A.ring = 11 := h.ok.r_ring
  have nz : A.R A.ring ≠ 0 := by rw [rx]; omega
  have kz := h.zk (o := (.ins (He.ga K "Ring") A.rdx (ringF s.n A.cnt A.col pl sm tb bg fd))) nz
  exact {
    ok := h.ok, zr := h.zr, zf := fun a n => h.zf a (none_upd n)
    p := at_ne (by rw [rx, h.ok.r_p]; omega) h.p
    busy := at_ne (by rw [rx, h.ok.r_busy]; omega) h.busy
    rows := let ⟨kvs, h1, h2, h3⟩ := h.rows; ⟨kvs, at_ne (by rw [rx, h.ok.r_rows]; omega) h1, h2, fun i j hi hj => (h3 i j hi hj).keep kz⟩
    tree := at_ne (by rw [rx, h.ok.r_tree]; omega) h.tree
    due := at_ne (by rw [rx, h.ok.r_due]; omega) h.due
    over := at_ne (by rw [rx, h.ok.r_over]; omega) h.over
    slips := let ⟨kvs, h1, h2⟩ := h.slips; ⟨kvs, at_ne (by rw [rx, h.ok.r_slips]; omega) h1, h2⟩
    sc := at_ne (by rw [rx, h.ok.r_sc]; omega) h.sc
    held := let ⟨hv, h1, h2⟩ := h.held; ⟨hv, at_ne (by rw [rx, h.ok.r_held]; omega) h1, fun i hi => (h2 i hi).keep kz⟩
    hw := at_ne (by rw [rx, h.ok.r_hw]; omega) h.hw
    ring := upd_same
    cnt := at_ne (by rw [rx, h.ok.r_cnt]; omega) h.cnt
    col := at_ne (by rw [rx, h.ok.r_col]; omega) h.col
    hl := fun i hi => let ⟨vs, h1, h2⟩ := h.hl i hi; ⟨vs, at_ne (by rw [rx, h.ok.r_hl i hi]; omega) h1, h2.keep kz⟩
  }
theorem HallAt.set_slips (h : HallAt K Z H A s) {kvs : List (List Key × V)} (f : Nat → Nat → Int) (hk : Keyed s.n kvs) (hv : ∀ i j, i < s.n → j < s.n → (valV kvs (key i j)).getD (.int 0) = .int (f i j)) : HallAt K Z (L2.upd H A.slips (.dT kvs)) A { s with slips := f } := by
  have rx : A.R A.slips = 7 := h.ok.r_slips
  have nz : A.R A.slips ≠ 0 := by rw [rx]; omega
  have kz := h.zk (o := (.dT kvs)) nz
  exact {
    ok := h.ok, zr := h.zr, zf := fun a n => h.zf a (none_upd n)
    p := at_ne (by rw [rx, h.ok.r_p]; omega) h.p
    busy := at_ne (by rw [rx, h.ok.r_busy]; omega) h.busy
    rows := let ⟨kvs, h1, h2, h3⟩ := h.rows; ⟨kvs, at_ne (by rw [rx, h.ok.r_rows]; omega) h1, h2, fun i j hi hj => (h3 i j hi hj).keep kz⟩
    tree := at_ne (by rw [rx, h.ok.r_tree]; omega) h.tree
    due := at_ne (by rw [rx, h.ok.r_due]; omega) h.due
    over := at_ne (by rw [rx, h.ok.r_over]; omega) h.over
    slips := ⟨kvs, upd_same, hk, hv⟩
    sc := at_ne (by rw [rx, h.ok.r_sc]; omega) h.sc
    held := let ⟨hv, h1, h2⟩ := h.held; ⟨hv, at_ne (by rw [rx, h.ok.r_held]; omega) h1, fun i hi => (h2 i hi).keep kz⟩
    hw := at_ne (by rw [rx, h.ok.r_hw]; omega) h.hw
    ring := at_ne (by rw [rx, h.ok.r_ring]; omega) h.ring
    cnt := at_ne (by rw [rx, h.ok.r_cnt]; omega) h.cnt
    col := at_ne (by rw [rx, h.ok.r_col]; omega) h.col
    hl := fun i hi => let ⟨vs, h1, h2⟩ := h.hl i hi; ⟨vs, at_ne (by rw [rx, h.ok.r_hl i hi]; omega) h1, h2.keep kz⟩
  }
theorem HallAt.set_rows (h : HallAt K Z H A s) {kvs : List (List Key × V)} (f : Nat → Nat → List Wt) (hk : Keyed s.n kvs) (hv : ∀ i j, i < s.n → j < s.n → RowAt Z H (valV kvs (key i j)) (f i j)) : HallAt K Z (L2.upd H A.rows (.dT kvs)) A { s with rows := f } := by
  have rx : A.R A.rows = 3 := h.ok.r_rows
  have nz : A.R A.rows ≠ 0 := by rw [rx]; omega
  have kz := h.zk (o := (.dT kvs)) nz
  exact {
    ok := h.ok, zr := h.zr, zf := fun a n => h.zf a (none_upd n)
    p := at_ne (by rw [rx, h.ok.r_p]; omega) h.p
    busy := at_ne (by rw [rx, h.ok.r_busy]; omega) h.busy
    rows := ⟨kvs, upd_same, hk, fun i j hi hj => (hv i j hi hj).keep kz⟩
    tree := at_ne (by rw [rx, h.ok.r_tree]; omega) h.tree
    due := at_ne (by rw [rx, h.ok.r_due]; omega) h.due
    over := at_ne (by rw [rx, h.ok.r_over]; omega) h.over
    slips := let ⟨kvs, h1, h2⟩ := h.slips; ⟨kvs, at_ne (by rw [rx, h.ok.r_slips]; omega) h1, h2⟩
    sc := at_ne (by rw [rx, h.ok.r_sc]; omega) h.sc
    held := let ⟨hv, h1, h2⟩ := h.held; ⟨hv, at_ne (by rw [rx, h.ok.r_held]; omega) h1, fun i hi => (h2 i hi).keep kz⟩
    hw := at_ne (by rw [rx, h.ok.r_hw]; omega) h.hw
    ring := at_ne (by rw [rx, h.ok.r_ring]; omega) h.ring
    cnt := at_ne (by rw [rx, h.ok.r_cnt]; omega) h.cnt
    col := at_ne (by rw [rx, h.ok.r_col]; omega) h.col
    hl := fun i hi => let ⟨vs, h1, h2⟩ := h.hl i hi; ⟨vs, at_ne (by rw [rx, h.ok.r_hl i hi]; omega) h1, h2.keep kz⟩
  }
theorem HallAt.set_held (h : HallAt K Z H A s) {hv : Nat → V} (f : Nat → Wt) (hh : ∀ i, i < s.n → WV Z H (hv i) (f i)) : HallAt K Z (L2.upd H A.held (.lst (vec s.n hv))) A { s with held := f } := by
  have rx : A.R A.held = 9 := h.ok.r_held
  have nz : A.R A.held ≠ 0 := by rw [rx]; omega
  have kz := h.zk (o := (.lst (vec s.n hv))) nz
  exact {
    ok := h.ok, zr := h.zr, zf := fun a n => h.zf a (none_upd n)
    p := at_ne (by rw [rx, h.ok.r_p]; omega) h.p
    busy := at_ne (by rw [rx, h.ok.r_busy]; omega) h.busy
    rows := let ⟨kvs, h1, h2, h3⟩ := h.rows; ⟨kvs, at_ne (by rw [rx, h.ok.r_rows]; omega) h1, h2, fun i j hi hj => (h3 i j hi hj).keep kz⟩
    tree := at_ne (by rw [rx, h.ok.r_tree]; omega) h.tree
    due := at_ne (by rw [rx, h.ok.r_due]; omega) h.due
    over := at_ne (by rw [rx, h.ok.r_over]; omega) h.over
    slips := let ⟨kvs, h1, h2⟩ := h.slips; ⟨kvs, at_ne (by rw [rx, h.ok.r_slips]; omega) h1, h2⟩
    sc := at_ne (by rw [rx, h.ok.r_sc]; omega) h.sc
    held := ⟨hv, upd_same, fun i hi => (hh i hi).keep kz⟩
    hw := at_ne (by rw [rx, h.ok.r_hw]; omega) h.hw
    ring := at_ne (by rw [rx, h.ok.r_ring]; omega) h.ring
    cnt := at_ne (by rw [rx, h.ok.r_cnt]; omega) h.cnt
    col := at_ne (by rw [rx, h.ok.r_col]; omega) h.col
    hl := fun i hi => let ⟨vs, h1, h2⟩ := h.hl i hi; ⟨vs, at_ne (by rw [rx, h.ok.r_hl i hi]; omega) h1, h2.keep kz⟩
  }
theorem HallAt.set_hl (h : HallAt K Z H A s) {x : Nat} (hx : x < s.n) {vs : List V} (ws : List Wt) (hh : WLs Z H vs ws) : HallAt K Z (L2.upd H (A.hl x) (.lst vs)) A { s with hw := up s.hw x ws } := by
  have rx : A.R (A.hl x) = 14 + x := h.ok.r_hl x hx
  have nz : A.R (A.hl x) ≠ 0 := by rw [rx]; omega
  have kz := h.zk (o := (.lst vs)) nz
  exact {
    ok := h.ok, zr := h.zr, zf := fun a n => h.zf a (none_upd n)
    p := at_ne (by rw [rx, h.ok.r_p]; omega) h.p
    busy := at_ne (by rw [rx, h.ok.r_busy]; omega) h.busy
    rows := let ⟨kvs, h1, h2, h3⟩ := h.rows; ⟨kvs, at_ne (by rw [rx, h.ok.r_rows]; omega) h1, h2, fun i j hi hj => (h3 i j hi hj).keep kz⟩
    tree := at_ne (by rw [rx, h.ok.r_tree]; omega) h.tree
    due := at_ne (by rw [rx, h.ok.r_due]; omega) h.due
    over := at_ne (by rw [rx, h.ok.r_over]; omega) h.over
    slips := let ⟨kvs, h1, h2⟩ := h.slips; ⟨kvs, at_ne (by rw [rx, h.ok.r_slips]; omega) h1, h2⟩
    sc := at_ne (by rw [rx, h.ok.r_sc]; omega) h.sc
    held := let ⟨hv, h1, h2⟩ := h.held; ⟨hv, at_ne (by rw [rx, h.ok.r_held]; omega) h1, fun i hi => (h2 i hi).keep kz⟩
    hw := at_ne (by rw [rx, h.ok.r_hw]; omega) h.hw
    ring := at_ne (by rw [rx, h.ok.r_ring]; omega) h.ring
    cnt := at_ne (by rw [rx, h.ok.r_cnt]; omega) h.cnt
    col := at_ne (by rw [rx, h.ok.r_col]; omega) h.col
    hl := fun i hi => by
      by_cases e : i = x
      · subst e
        exact ⟨vs, upd_same, by show WLs Z _ vs (up s.hw i ws i); rw [up_same]; exact hh.keep kz⟩
      · obtain ⟨us, h1, h2⟩ := h.hl i hi
        exact ⟨us, at_ne (by rw [rx, h.ok.r_hl i hi]; omega) h1, by show WLs Z _ us (up s.hw x ws i); rw [up_ne e]; exact h2.keep kz⟩
  }
/-- the hall's own things are no tuples -/
theorem HallAt.tup (h : HallAt K Z H A s) {q : Addr} {xs : List V} (hq : H q = some (.tup xs)) : A.R q = 0 := by
  by_cases e : A.R q = 0
  · exact e
  · exfalso
    obtain ⟨kvs, r1, _, _⟩ := h.rows
    obtain ⟨hv, d1, _⟩ := h.held
    obtain ⟨ss, s1, _, _⟩ := h.slips
    rcases h.ok.own q e with m | ⟨i, hi, m⟩
    · simp only [List.mem_cons, List.not_mem_nil, or_false] at m
      rcases m with m | m | m | m | m | m | m | m | m | m | m | m | m
      · rw [m, h.p] at hq; cases hq
      · rw [m, h.busy] at hq; cases hq
      · rw [m, r1] at hq; cases hq
      · rw [m, h.tree] at hq; cases hq
      · rw [m, h.due] at hq; cases hq
      · rw [m, h.over] at hq; cases hq
      · rw [m, s1] at hq; cases hq
      · rw [m, h.sc] at hq; cases hq
      · rw [m, d1] at hq; cases hq
      · rw [m, h.hw] at hq; cases hq
      · rw [m, h.ring] at hq; cases hq
      · rw [m, h.cnt] at hq; cases hq
      · rw [m, h.col] at hq; cases hq
    · obtain ⟨vs, e1, _⟩ := h.hl i hi
      rw [m, e1] at hq
      cases hq
/-- other addresses that the hall may point to -/
theorem HallAt.rez {Z' : Addr → Prop} (h : HallAt K Z H A s) (zr : ∀ a, Z' a → A.R a = 0) (zf : ∀ a, H a = none → Z' a) (zz : ∀ a o, H a = some o → Z a → Z' a) : HallAt K Z' H A s := by
  have wv : ∀ {v : V} {w : Wt}, WV Z H v w → WV Z' H v w := fun ⟨q, e, z, hq⟩ => ⟨q, e, zz q _ hq z, hq⟩
  have wl : ∀ {vs : List V} {ws : List Wt}, WLs Z H vs ws → WLs Z' H vs ws := fun {vs} => by
    induction vs with
    | nil => exact fun {ws} h => by cases ws; exact trivial; exact h
    | cons v vs ih => exact fun {ws} h => by cases ws; exact h; exact ⟨wv h.1, ih h.2⟩
  obtain ⟨kvs, r1, r2, r3⟩ := h.rows
  obtain ⟨hv, d1, d2⟩ := h.held
  exact { ok := h.ok, zr := zr, zf := zf, p := h.p, busy := h.busy, tree := h.tree, due := h.due, over := h.over, slips := h.slips, sc := h.sc, hw := h.hw, ring := h.ring, cnt := h.cnt, col := h.col
          rows := ⟨kvs, r1, r2, fun i j hi hj => by
            have := r3 i j hi hj
            cases e : valV kvs (key i j) with
            | none =>
              rw [e] at this
              exact this
            | some v =>
              rw [e] at this
              obtain ⟨l, vs, e1, z, e2, e3⟩ := this
              exact ⟨l, vs, e1, zz l _ e2 z, e2, wl e3⟩⟩
          held := ⟨hv, d1, fun i hi => wv (d2 i hi)⟩
          hl := fun i hi => let ⟨vs, e1, e2⟩ := h.hl i hi; ⟨vs, e1, wl e2⟩ }
/-- .. another heap that keeps the hall's own and what it points to -/
theorem HallAt.frame (h : HallAt K Z H A s) (zf : ∀ a, H' a = none → Z a) (kz : ∀ a o, H a = some o → Z a → H' a = some o) (kb : ∀ a o, H a = some o → A.R a ≠ 0 → H' a = some o) : HallAt K Z H' A s := by
  obtain ⟨kvs, r1, r2, r3⟩ := h.rows
  obtain ⟨hv, d1, d2⟩ := h.held
  obtain ⟨ss, s1, s2, s3⟩ := h.slips
  have ok := h.ok
  exact { ok := ok, zr := h.zr, zf := zf
          p := kb _ _ h.p (by rw [ok.r_p]; decide), busy := kb _ _ h.busy (by rw [ok.r_busy]; decide), tree := kb _ _ h.tree (by rw [ok.r_tree]; decide), due := kb _ _ h.due (by rw [ok.r_due]; decide), over := kb _ _ h.over (by rw [ok.r_over]; decide)
          slips := ⟨ss, kb _ _ s1 (by rw [ok.r_slips]; decide), s2, s3⟩, sc := kb _ _ h.sc (by rw [ok.r_sc]; decide), hw := kb _ _ h.hw (by rw [ok.r_hw]; decide), ring := kb _ _ h.ring (by rw [ok.r_ring]; decide), cnt := kb _ _ h.cnt (by rw [ok.r_cnt]; decide), col := kb _ _ h.col (by rw [ok.r_col]; decide)
          rows := ⟨kvs, kb _ _ r1 (by rw [ok.r_rows]; decide), r2, fun i j hi hj => (r3 i j hi hj).keep kz⟩
          held := ⟨hv, kb _ _ d1 (by rw [ok.r_held]; decide), fun i hi => (d2 i hi).keep kz⟩
          hl := fun i hi => let ⟨vs, e1, e2⟩ := h.hl i hi; ⟨vs, kb _ _ e1 (by rw [ok.r_hl i hi]; omega), e2.keep kz⟩ }
end
end QH

/-! The promises of the program's defs. -/
namespace QH
open PySem PySem.Spec PyProof.Rows L2 Evl
/-- what the top has of the classes -/
structure TxtK (K : PySem.W.Frag) : Prop where
  clHall : Cls K (He.ga K "Hall")
  clTree : Cls K (He.ga K "Tree")
  clWeights : Cls K (He.ga K "Weights")
  clRing : Cls K (He.ga K "Ring")
  aHall : ∀ f ∈ (["many", "busy", "rows", "tree", "scales", "ring"] : List Str), NoAttr K (He.ga K "Hall") f
  aTree : ∀ f ∈ (["due", "over", "slips"] : List Str), NoAttr K (He.ga K "Tree") f
  aWeights : ∀ f ∈ (["held", "homeward"] : List Str), NoAttr K (He.ga K "Weights") f
  aRing : ∀ f ∈ (["many", "counts", "colours", "place", "sum", "colour", "begun", "found"] : List Str), NoAttr K (He.ga K "Ring") f
structure Txt (K : PySem.W.Frag) (mg : Str → Option Value) : Prop extends TxtK K where
  mkHall : Mk K (He.ga K "Hall") (He.ma K (He.ga K "Hall") "__init__")
  mkTree : Mk K (He.ga K "Tree") (He.ma K (He.ga K "Tree") "__init__")
  mkWeights : Mk K (He.ga K "Weights") (He.ma K (He.ga K "Weights") "__init__")
  mkRing : Mk K (He.ga K "Ring") (He.ma K (He.ga K "Ring") "__init__")
  gHall : mg "Hall" = some (.ref (He.ga K "Hall"))
  gTree : mg "Tree" = some (.ref (He.ga K "Tree"))
  gWeights : mg "Weights" = some (.ref (He.ga K "Weights"))
  gRing : mg "Ring" = some (.ref (He.ga K "Ring"))
/-! ### more of what evaluates -/
section
variable {K : PySem.W.Frag} {σ : L2.St} {H H' : Hp} {ta tb te tv : TE} {t u : TT} {x y z v : V} {a C dx : Addr} {fs : List (Str × V)} {f m : Str} {D : Ends}
theorem ev_fld (h : Ev ta σ H (.ref a)) (ho : H a = some (.ins C dx fs)) (hc : Cls K C) (hn : NoAttr K C f) (hl : fs.lookup f = some v) : Ev (tFld K ta f) σ H v := fun H1 e Q q =>
  h H1 e _ fun H2 e2 => ⟨a, C, dx, fs, v, rfl, (e.trans e2) _ _ ho, hc, hn, hl, q H2 e2⟩
theorem s_fld (hv : Ev tv σ H y) (ha : Ev ta σ H (.ref a)) (ho : H a = some (.ins C dx fs)) (hc : Cls K C) (hn : NoAttr K C f) (hl : fs.length < 1000) (k : ∀ H1, Ex H H1 → D.nx σ (upd H1 a (.ins C dx (putF f y fs)))) : sFld K ta tv f D σ H :=
  hv H (Ex.refl H) _ fun H1 e1 => ha H1 e1 _ fun H2 e2 => ⟨a, C, dx, fs, rfl, (e1.trans e2) _ _ ho, hc, hn, hl, k H2 (e1.trans e2)⟩
theorem ev_at {l : Addr} {n i : Nat} {g : Nat → V} (h : Ev ta σ H (.ref l)) (hl : H l = some (.lst (vec n g))) (hi : Ev tb σ H (.int i)) (hn : i < n) : Ev (tOp (rIxL K) ta tb) σ H (g i) :=
  ev_op h hi (rv_ixL (sq_of hl) (atI_nat (vec_get hn)))
theorem up_map {α β : Type} {g : α → β} {f : Nat → α} {j : Nat} {x : α} : up (fun i => g (f i)) j (g x) = fun i => g (up f j x i) := by
  funext i
  by_cases e : i = j
  · subst e
    rw [up_same, up_same]
  · rw [up_ne e, up_ne e]
theorem s_setV {α : Type} (g : α → V) {l : Addr} {n j : Nat} {f : Nat → α} {x : α} (hl : H l = some (.lst (vec n fun i => g (f i)))) (h : Ev te σ H (g x)) (ho : Ev ta σ H (.ref l)) (hi : Ev tb σ H (.int j)) (hj : j < n)
    (k : ∀ H1, Ex H H1 → D.nx σ (upd H1 l (.lst (vec n fun i => g (up f j x i))))) : tAsg te (gSub ta tb rSetL) D σ H :=
  s_setL hl h ho hi (by rw [vec_len]; exact hj) fun H1 e => by
    rw [vec_set hj, up_map]
    exact k H1 e
/-- o.m(..), its value dropped -/
theorem s_meth {sp : Sp} {tg : TA} {vs : List V} (h : Ev ta σ H (.ref a)) (ho : H a = some (.ins C dx fs)) (hm : fs.lookup m = none) (hv : EvA tg σ H vs) (k : ∀ H1, Ex H H1 → sp (.ref a :: (vs ++ [])) H1 (fun _ H2 => D.nx σ H2) E0) :
    tDrop (tMeth C m sp [] E0 ta tg) D σ H := h H (Ex.refl H) _ fun H1 e1 => ⟨a, dx, fs, rfl, e1 _ _ ho, hm, hv H1 e1 _ fun H2 e2 => k H2 (e1.trans e2)⟩
/-- .. its value kept: te what follows (a return, a store) -/
theorem ev_meth {sp : Sp} {tg : TA} {vs : List V} (h : Ev ta σ H (.ref a)) (ho : H a = some (.ins C dx fs)) (hm : fs.lookup m = none) (hv : EvA tg σ H vs) (hs : SpV sp (.ref a :: (vs ++ [])) H z) : Ev (tMeth C m sp [] E0 ta tg) σ H z :=
  fun H1 e Q q => h H1 e _ fun H2 e2 => ⟨a, dx, fs, rfl, (e.trans e2) _ _ ho, hm, hv H2 (e.trans e2) _ fun H3 e3 => hs H3 ((e.trans e2).trans e3) Q (fun H4 e4 => q H4 ((e2.trans e3).trans e4)) E0⟩
theorem et_is_true {b : Bool} (h : EvT t σ H b) (e : b = true) : EvT t σ H true := e ▸ h
theorem ev_eqI {i j : Int} (ha : Ev ta σ H (.int i)) (hb : Ev tb σ H (.int j)) : Ev (tOp rEq ta tb) σ H (.bl (decide (i = j))) :=
  ev_is (ev_op ha hb (rv_eq rfl)) (by congr 1; simp)
theorem ev_neI {i j : Int} (ha : Ev ta σ H (.int i)) (hb : Ev tb σ H (.int j)) : Ev (tOp rNe ta tb) σ H (.bl (decide (i ≠ j))) :=
  ev_is (ev_op ha hb (rv_ne rfl)) (by congr 1; simp)
theorem ev_colW {b : Bool} (ha : Ev ta σ H (colS b)) (hb : Ev tb σ H (.str "white")) : Ev (tOp rEq ta tb) σ H (.bl (!b)) :=
  ev_is (ev_op ha hb (rv_eq (by cases b <;> rfl))) (by cases b <;> decide +kernel)
theorem ev_colB {b : Bool} (ha : Ev ta σ H (colS b)) (hb : Ev tb σ H (.str "black")) : Ev (tOp rEq ta tb) σ H (.bl b) :=
  ev_is (ev_op ha hb (rv_eq (by cases b <;> rfl))) (by cases b <;> decide +kernel)
theorem ev_notN (ha : Ev ta σ H x) : Ev (tNotN ta) σ H (.bl (!decide (x = .non))) := fun H1 e _ q => ha H1 e _ fun H2 e2 => q H2 e2
theorem ev_isN (ha : Ev ta σ H x) : Ev (tIsN ta) σ H (.bl (decide (x = .non))) := fun H1 e _ q => ha H1 e _ fun H2 e2 => q H2 e2
theorem ovV_non {o : Option Nat} : (!decide (ovV o = .non)) = o.isSome := by cases o <;> rfl
theorem rv_add {i j : Int} : RV rAddI (.int i) (.int j) H (.int (i + j)) := rv_I0
theorem rv_sub {i j : Int} : RV rSubI (.int i) (.int j) H (.int (i - j)) := rv_I0
theorem rv_lt {i j : Int} : RV rLtI (.int i) (.int j) H (.bl (decide (i < j))) := rv_I0
theorem rv_gt {i j : Int} : RV rGtI (.int i) (.int j) H (.bl (decide (j < i))) := rv_I0
/-- an if's two ways -/
theorem s_ifB {b : Bool} {tu tw : TS} (h : EvT t σ H b) (h1 : b = true → ∀ H1, Ex H H1 → tu D σ H1) (h2 : b = false → ∀ H1, Ex H H1 → tw D σ H1) : tIfS t tu tw D σ H := s_if h h1 h2
end
/-! ### attributes of a hall -/
section
variable {K : PySem.W.Frag} {Z : Addr → Prop} {σ : L2.St} {H : Hp} {ta : TE} {A : Ad} {s : S}
theorem mem_hd {α : Type} {a : α} {l : List α} : a ∈ a :: l := List.mem_cons_self
theorem ev_Hall_many (T : TxtK K) (h : HallAt K Z H A s) (ha : Ev ta σ H (.ref A.p)) : Ev (tFld K ta "many") σ H (.int s.n) := ev_fld ha h.p T.clHall (T.aHall _ (by decide +kernel)) (by kernel_rfl)
theorem ev_Hall_busy (T : TxtK K) (h : HallAt K Z H A s) (ha : Ev ta σ H (.ref A.p)) : Ev (tFld K ta "busy") σ H (.ref A.busy) := ev_fld ha h.p T.clHall (T.aHall _ (by decide +kernel)) (by kernel_rfl)
theorem ev_Hall_rows (T : TxtK K) (h : HallAt K Z H A s) (ha : Ev ta σ H (.ref A.p)) : Ev (tFld K ta "rows") σ H (.ref A.rows) := ev_fld ha h.p T.clHall (T.aHall _ (by decide +kernel)) (by kernel_rfl)
theorem ev_Hall_tree (T : TxtK K) (h : HallAt K Z H A s) (ha : Ev ta σ H (.ref A.p)) : Ev (tFld K ta "tree") σ H (.ref A.tree) := ev_fld ha h.p T.clHall (T.aHall _ (by decide +kernel)) (by kernel_rfl)
theorem ev_Hall_scales (T : TxtK K) (h : HallAt K Z H A s) (ha : Ev ta σ H (.ref A.p)) : Ev (tFld K ta "scales") σ H (.ref A.sc) := ev_fld ha h.p T.clHall (T.aHall _ (by decide +kernel)) (by kernel_rfl)
theorem ev_Hall_ring (T : TxtK K) (h : HallAt K Z H A s) (ha : Ev ta σ H (.ref A.p)) : Ev (tFld K ta "ring") σ H (.ref A.ring) := ev_fld ha h.p T.clHall (T.aHall _ (by decide +kernel)) (by kernel_rfl)
theorem ev_Tree_due (T : TxtK K) (h : HallAt K Z H A s) (ha : Ev ta σ H (.ref A.tree)) : Ev (tFld K ta "due") σ H (.ref A.due) := ev_fld ha h.tree T.clTree (T.aTree _ (by decide +kernel)) (by kernel_rfl)
theorem ev_Tree_over (T : TxtK K) (h : HallAt K Z H A s) (ha : Ev ta σ H (.ref A.tree)) : Ev (tFld K ta "over") σ H (.ref A.over) := ev_fld ha h.tree T.clTree (T.aTree _ (by decide +kernel)) (by kernel_rfl)
theorem ev_Tree_slips (T : TxtK K) (h : HallAt K Z H A s) (ha : Ev ta σ H (.ref A.tree)) : Ev (tFld K ta "slips") σ H (.ref A.slips) := ev_fld ha h.tree T.clTree (T.aTree _ (by decide +kernel)) (by kernel_rfl)
theorem ev_Weights_held (T : TxtK K) (h : HallAt K Z H A s) (ha : Ev ta σ H (.ref A.sc)) : Ev (tFld K ta "held") σ H (.ref A.held) := ev_fld ha h.sc T.clWeights (T.aWeights _ (by decide +kernel)) (by kernel_rfl)
theorem ev_Weights_homeward (T : TxtK K) (h : HallAt K Z H A s) (ha : Ev ta σ H (.ref A.sc)) : Ev (tFld K ta "homeward") σ H (.ref A.hw) := ev_fld ha h.sc T.clWeights (T.aWeights _ (by decide +kernel)) (by kernel_rfl)
theorem ev_Ring_many (T : TxtK K) (h : HallAt K Z H A s) (ha : Ev ta σ H (.ref A.ring)) : Ev (tFld K ta "many") σ H (.int s.n) := ev_fld ha h.ring T.clRing (T.aRing _ (by decide +kernel)) (by kernel_rfl)
theorem ev_Ring_counts (T : TxtK K) (h : HallAt K Z H A s) (ha : Ev ta σ H (.ref A.ring)) : Ev (tFld K ta "counts") σ H (.ref A.cnt) := ev_fld ha h.ring T.clRing (T.aRing _ (by decide +kernel)) (by kernel_rfl)
theorem ev_Ring_colours (T : TxtK K) (h : HallAt K Z H A s) (ha : Ev ta σ H (.ref A.ring)) : Ev (tFld K ta "colours") σ H (.ref A.col) := ev_fld ha h.ring T.clRing (T.aRing _ (by decide +kernel)) (by kernel_rfl)
theorem ev_Ring_place (T : TxtK K) (h : HallAt K Z H A s) (ha : Ev ta σ H (.ref A.ring)) : Ev (tFld K ta "place") σ H (.int s.place) := ev_fld ha h.ring T.clRing (T.aRing _ (by decide +kernel)) (by kernel_rfl)
theorem ev_Ring_sum (T : TxtK K) (h : HallAt K Z H A s) (ha : Ev ta σ H (.ref A.ring)) : Ev (tFld K ta "sum") σ H (.int s.sum) := ev_fld ha h.ring T.clRing (T.aRing _ (by decide +kernel)) (by kernel_rfl)
theorem ev_Ring_colour (T : TxtK K) (h : HallAt K Z H A s) (ha : Ev ta σ H (.ref A.ring)) : Ev (tFld K ta "colour") σ H (colS s.tb) := ev_fld ha h.ring T.clRing (T.aRing _ (by decide +kernel)) (by kernel_rfl)
theorem ev_Ring_begun (T : TxtK K) (h : HallAt K Z H A s) (ha : Ev ta σ H (.ref A.ring)) : Ev (tFld K ta "begun") σ H (.bl s.begun) := ev_fld ha h.ring T.clRing (T.aRing _ (by decide +kernel)) (by kernel_rfl)
theorem ev_Ring_found (T : TxtK K) (h : HallAt K Z H A s) (ha : Ev ta σ H (.ref A.ring)) : Ev (tFld K ta "found") σ H (.bl s.found) := ev_fld ha h.ring T.clRing (T.aRing _ (by decide +kernel)) (by kernel_rfl)
end
/-! ### promises -/
/-- an act of one hand, on the object at rcv: the state st -/
def spAct1 (K : PySem.W.Frag) (rcv : Ad → Addr) (pre : S → Nat → Prop) (st : S → Nat → S) : Sp := fun vs H Q _ => ∃ (A : Ad) (s : S) (Z : Addr → Prop) (a : Nat), vs = [.ref (rcv A), .int a] ∧ HallAt K Z H A s ∧ pre s a ∧
  ∀ H', HallAt K Z H' A (st s a) → Kp A H H' → Q .non H'
def spAct2 (K : PySem.W.Frag) (rcv : Ad → Addr) (pre : S → Nat → Nat → Prop) (st : S → Nat → Nat → S) : Sp := fun vs H Q _ => ∃ (A : Ad) (s : S) (Z : Addr → Prop) (a b : Nat), vs = [.ref (rcv A), .int a, .int b] ∧ HallAt K Z H A s ∧ pre s a b ∧
  ∀ H', HallAt K Z H' A (st s a b) → Kp A H H' → Q .non H'
def spAct0 (K : PySem.W.Frag) (rcv : Ad → Addr) (pre : S → Prop) (st : S → S) : Sp := fun vs H Q _ => ∃ (A : Ad) (s : S) (Z : Addr → Prop), vs = [.ref (rcv A)] ∧ HallAt K Z H A s ∧ pre s ∧
  ∀ H', HallAt K Z H' A (st s) → Kp A H H' → Q .non H'
/-- a question: the value -/
def spAsk1 (K : PySem.W.Frag) (rcv : Ad → Addr) (pre : S → Nat → Prop) (val : S → Nat → V) : Sp := fun vs H Q _ => ∃ (A : Ad) (s : S) (Z : Addr → Prop) (a : Nat), vs = [.ref (rcv A), .int a] ∧ HallAt K Z H A s ∧ pre s a ∧
  ∀ H', Ex H H' → Q (val s a) H'
def spAsk2 (K : PySem.W.Frag) (rcv : Ad → Addr) (pre : S → Nat → Nat → Prop) (val : S → Nat → Nat → V) : Sp := fun vs H Q _ => ∃ (A : Ad) (s : S) (Z : Addr → Prop) (a b : Nat), vs = [.ref (rcv A), .int a, .int b] ∧ HallAt K Z H A s ∧ pre s a b ∧
  ∀ H', Ex H H' → Q (val s a b) H'
def spAsk0 (K : PySem.W.Frag) (rcv : Ad → Addr) (val : S → V) : Sp := fun vs H Q _ => ∃ (A : Ad) (s : S) (Z : Addr → Prop), vs = [.ref (rcv A)] ∧ HallAt K Z H A s ∧ ∀ H', Ex H H' → Q (val s) H'
/-- ring -/
def sp_Ring_init (K : PySem.W.Frag) : Sp := fun vs H Q _ => ∃ (p dx : Addr) (n : Nat), vs = [.ref p, .int n] ∧ n ≤ 6 ∧ H p = some (.ins (He.ga K "Ring") dx []) ∧
  ∀ (H' : Hp) (c k : Addr), H c = none → H k = none → c ≠ k → H' p = some (.ins (He.ga K "Ring") dx (ringF n c k 0 0 false false false)) → H' c = some (.lst (vec n fun _ => .int 0)) → H' k = some (.lst (vec n fun _ => colS false)) →
    (∀ a o, H a = some o → a ≠ p → H' a = some o) → Q .non H'
def sp_Ring_sent (K : PySem.W.Frag) : Sp := spAct1 K (·.ring) (fun s a => a < s.n) S.ringSent
def sp_Ring_taken (K : PySem.W.Frag) : Sp := spAct1 K (·.ring) (fun s a => a < s.n) S.ringTaken
def sp_Ring_passed (K : PySem.W.Frag) : Sp := spAct0 K (·.ring) (fun s => s.place < s.n) S.passed
/-- tree -/
def sp_Tree_init (K : PySem.W.Frag) : Sp := fun vs H Q _ => ∃ (p dx : Addr) (n : Nat), vs = [.ref p, .int n] ∧ n ≤ 6 ∧ H p = some (.ins (He.ga K "Tree") dx []) ∧
  ∀ (H' : Hp) (d o s : Addr), H d = none → H o = none → H s = none → d ≠ o → d ≠ s → o ≠ s → H' p = some (.ins (He.ga K "Tree") dx (treeF d o s)) → H' d = some (.lst (vec n fun _ => .int 0)) → H' o = some (.lst (vec n fun _ => .non)) → H' s = some (.dT []) →
    (∀ a o, H a = some o → a ≠ p → H' a = some o) → Q .non H'
def sp_Tree_is_in (K : PySem.W.Frag) : Sp := spAsk1 K (·.tree) (fun s a => a < s.n) fun s a => .bl (s.isIn a)
def sp_Tree_slip (K : PySem.W.Frag) : Sp := spAct2 K (·.tree) (fun s a b => a < s.n ∧ b < s.n ∧ s.n ≤ 6) S.slip
def sp_Tree_sent (K : PySem.W.Frag) : Sp := spAct1 K (·.tree) (fun s a => a < s.n) S.treeSent
def sp_Tree_taken (K : PySem.W.Frag) : Sp := spAct2 K (·.tree) (fun s a b => a < s.n ∧ b < s.n ∧ s.n ≤ 6) S.treeTaken
def sp_Tree_settle (K : PySem.W.Frag) : Sp := fun vs H Q _ => ∃ (A : Ad) (s : S) (Z : Addr → Prop) (a : Nat) (b : Bool), vs = [.ref A.tree, .int a, .bl b] ∧ HallAt K Z H A s ∧ (a < s.n ∧ s.n ≤ 6 ∧ ∀ o, s.over a = some o → o < s.n) ∧
  ∀ H', HallAt K Z H' A (s.settle a b) → Kp A H H' → Q .non H'
def sp_Tree_came_back (K : PySem.W.Frag) : Sp := spAct2 K (·.tree) (fun s a b => a < s.n ∧ b < s.n ∧ s.n ≤ 6 ∧ 0 < s.slips a b) S.cameBack
/-- weights -/
def sp_normal (K : PySem.W.Frag) : Sp := fun vs H Q _ => ∃ (u p : Nat), vs = [.int u, .int p] ∧ ∀ H' q, Ex H H' → H q = none → H' q = some (.tup (wT (norm u p))) → Q (.ref q) H'
def sp_half (K : PySem.W.Frag) : Sp := fun vs H Q _ => ∃ (a : Addr) (w : Wt), vs = [.ref a] ∧ H a = some (.tup (wT w)) ∧ ∀ H' q, Ex H H' → H q = none → H' q = some (.tup (wT (half w))) → Q (.ref q) H'
def sp_plus (K : PySem.W.Frag) : Sp := fun vs H Q _ => ∃ (a b : Addr) (w z : Wt), vs = [.ref a, .ref b] ∧ H a = some (.tup (wT w)) ∧ H b = some (.tup (wT z)) ∧ Fit w ∧ Fit z ∧ ∀ H' q, Ex H H' → H q = none → H' q = some (.tup (wT (plus w z))) → Q (.ref q) H'
def sp_Weights_init (K : PySem.W.Frag) : Sp := fun vs H Q _ => ∃ (p dx : Addr) (n : Nat), vs = [.ref p, .int n] ∧ 0 < n ∧ n ≤ 6 ∧ H p = some (.ins (He.ga K "Weights") dx []) ∧
  ∀ (H' : Hp) (h w : Addr) (hl : Nat → Addr) (hv : Nat → V), H h = none → H w = none → h ≠ w → (∀ i, i < n → H (hl i) = none ∧ hl i ≠ h ∧ hl i ≠ w ∧ H' (hl i) = some (.lst []) ∧ ∀ j, j < n → hl i = hl j → i = j) →
    (∀ i, i < n → WV (fun q => H q = none) H' (hv i) (if i = 0 then (1, 0) else (0, 0))) →
    H' p = some (.ins (He.ga K "Weights") dx (scF h w)) → H' h = some (.lst (vec n hv)) → H' w = some (.lst (vec n fun i => .ref (hl i))) →
    (∀ a o, H a = some o → a ≠ p → H' a = some o) → Q .non H'
/-- split also hands back the half, as it stands in the scales -/
def sp_Weights_split (K : PySem.W.Frag) : Sp := fun vs H Q _ => ∃ (A : Ad) (s : S) (Z : Addr → Prop) (a : Nat), vs = [.ref A.sc, .int a] ∧ HallAt K Z H A s ∧ a < s.n ∧
  ∀ H' v, HallAt K Z H' A (s.split a) → Kp A H H' → WV Z H' v (half (s.held a)) → Q v H'
def sp_Weights_add (K : PySem.W.Frag) : Sp := fun vs H Q _ => ∃ (A : Ad) (s : S) (Z : Addr → Prop) (a : Nat) (b : Addr) (w : Wt), vs = [.ref A.sc, .int a, .ref b] ∧ HallAt K Z H A s ∧ a < s.n ∧ H b = some (.tup (wT w)) ∧ Fit (s.held a) ∧ Fit w ∧
  ∀ H', HallAt K Z H' A (s.add a w) → Kp A H H' → Q .non H'
def sp_Weights_rested (K : PySem.W.Frag) : Sp := spAct1 K (·.sc) (fun s a => a < s.n ∧ (s.hw a).length ≤ 90000) S.wRested
def sp_Weights_came_home (K : PySem.W.Frag) : Sp := spAct1 K (·.sc) (fun s a => 0 < a ∧ a < s.n ∧ s.hw a ≠ [] ∧ Fit (s.held 0) ∧ ∀ w ∈ s.hw a, Fit w) S.cameHome
/-- hall -/
def sp_Hall_init (K : PySem.W.Frag) : Sp := fun vs H Q _ => ∃ (p dx : Addr) (n : Nat) (Zc : Addr → Prop), vs = [.ref p, .int n] ∧ 0 < n ∧ n ≤ 6 ∧ H p = some (.ins (He.ga K "Hall") dx []) ∧ (∀ a, H a = none → Zc a) ∧
  ∀ (H' : Hp) (A : Ad), A.p = p → HallAt K (fun a => A.R a = 0 ∧ Zc a) H' A (S.init n) → (∀ a, A.R a ≠ 0 → a = p ∨ H a = none) → (∀ a o, H a = some o → a ≠ p → H' a = some o) → Q .non H'
def sp_Hall_must_be (K : PySem.W.Frag) : Sp := spAsk1 K (·.p) (fun s a => a < s.n) fun _ _ => .non
def sp_Hall_must_be_two (K : PySem.W.Frag) : Sp := spAsk2 K (·.p) (fun s a b => Two s.n a b) fun _ _ _ => .non
def sp_Hall_must (K : PySem.W.Frag) : Sp := fun vs H Q _ => ∃ v : V, vs = [v, .bl true] ∧ ∀ H', Ex H H' → Q .non H'
def sp_Hall_row (K : PySem.W.Frag) : Sp := fun vs H Q _ => ∃ (A : Ad) (s : S) (Z : Addr → Prop) (a b : Nat), vs = [.ref A.p, .int a, .int b] ∧ HallAt K Z H A s ∧ (a < s.n ∧ b < s.n) ∧
  ∀ H' l us, Ex H H' → A.R l = 0 → H' l = some (.lst us) → WLs Z H' us (s.rows a b) → Q (.ref l) H'
def sp_Hall_send (K : PySem.W.Frag) : Sp := spAct2 K (·.p) (fun s a b => Good s ∧ s.Can (.send a b)) S.send
def sp_Hall_take (K : PySem.W.Frag) : Sp := spAct2 K (·.p) (fun s a b => Good s ∧ s.Can (.take a b)) S.take
def sp_Hall_rest (K : PySem.W.Frag) : Sp := spAct1 K (·.p) (fun s a => Good s ∧ s.Can (.rest a)) S.rest
def sp_Hall_back (K : PySem.W.Frag) : Sp := spAct2 K (·.p) (fun s a b => Good s ∧ s.Can (.back a b)) S.back
def sp_Hall_home (K : PySem.W.Frag) : Sp := spAct1 K (·.p) (fun s a => Good s ∧ s.Can (.home a)) S.cameHome
def sp_Hall_pass_on (K : PySem.W.Frag) : Sp := spAct0 K (·.p) (fun s => Good s ∧ s.Can .pass) S.passed
def sp_Hall_working (K : PySem.W.Frag) : Sp := fun vs H Q _ => ∃ (A : Ad) (s : S) (Z : Addr → Prop), vs = [.ref A.p] ∧ HallAt K Z H A s ∧ s.n ≤ 6 ∧
  ∀ H' q, Ex H H' → H q = none → H' q = some (.tup (s.working.map fun (i : Nat) => V.int (i : Int))) → Q (.ref q) H'
def sp_Hall_works (K : PySem.W.Frag) : Sp := spAsk2 K (·.p) (fun s a b => Two s.n a b) fun s a b => .int ((s.rows a b).length : Nat)
def S.quiet (s : S) : Bool := (List.range s.n).all (fun i => !s.busy i) && (List.range s.n).all fun i => (List.range s.n).all fun j => (s.rows i j).isEmpty
def sp_Hall_is_quiet (K : PySem.W.Frag) : Sp := fun vs H Q _ => ∃ (A : Ad) (s : S) (Z : Addr → Prop), vs = [.ref A.p] ∧ HallAt K Z H A s ∧ s.n ≤ 6 ∧ ∀ H', Ex H H' → Q (.bl s.quiet) H'
def sp_Hall_open_of (K : PySem.W.Frag) : Sp := spAsk1 K (·.p) (fun s a => a < s.n) fun s a => .int (s.due a)
def sp_Hall_above (K : PySem.W.Frag) : Sp := spAsk1 K (·.p) (fun s a => a < s.n) fun s a => ovV (s.over a)
def sp_Hall_receipts (K : PySem.W.Frag) : Sp := spAsk2 K (·.p) (fun s a b => Two s.n a b) fun s a b => .int (s.slips a b)
def sp_Hall_weight_of (K : PySem.W.Frag) : Sp := fun vs H Q _ => ∃ (A : Ad) (s : S) (Z : Addr → Prop) (a : Nat), vs = [.ref A.p, .int a] ∧ HallAt K Z H A s ∧ a < s.n ∧ ∀ H' v, Ex H H' → WV Z H' v (s.held a) → Q v H'
def sp_Hall_weights_on (K : PySem.W.Frag) : Sp := fun vs H Q _ => ∃ (A : Ad) (s : S) (Z : Addr → Prop) (a b : Nat), vs = [.ref A.p, .int a, .int b] ∧ HallAt K Z H A s ∧ Two s.n a b ∧
  ∀ H' q us, Ex H H' → H q = none → H' q = some (.tup us) → WLs Z H' us (s.rows a b) → Q (.ref q) H'
def sp_Hall_weights_home (K : PySem.W.Frag) : Sp := fun vs H Q _ => ∃ (A : Ad) (s : S) (Z : Addr → Prop) (a : Nat), vs = [.ref A.p, .int a] ∧ HallAt K Z H A s ∧ a < s.n ∧
  ∀ H' q us, Ex H H' → H q = none → H' q = some (.tup us) → WLs Z H' us (s.hw a) → Q (.ref q) H'
def sp_Hall_token (K : PySem.W.Frag) : Sp := fun vs H Q _ => ∃ (A : Ad) (s : S) (Z : Addr → Prop), vs = [.ref A.p] ∧ HallAt K Z H A s ∧
  ∀ H' q, Ex H H' → H q = none → H' q = some (.tup [.int s.place, .int s.sum, colS s.tb]) → Q (.ref q) H'
def sp_Hall_count_of (K : PySem.W.Frag) : Sp := spAsk1 K (·.p) (fun s a => a < s.n) fun s a => .int (s.cnt a)
def sp_Hall_colour_of (K : PySem.W.Frag) : Sp := spAsk1 K (·.p) (fun s a => a < s.n) fun s a => colS (s.blk a)
def S.told (s : S) : List Bool := [!s.busy 0 && decide (s.due 0 = 0), !s.busy 0 && decide (s.held 0 = (1, 0)), s.found]
def sp_Hall_told (K : PySem.W.Frag) : Sp := fun vs H Q _ => ∃ (A : Ad) (s : S) (Z : Addr → Prop), vs = [.ref A.p] ∧ HallAt K Z H A s ∧ 0 < s.n ∧
  ∀ H' q, Ex H H' → H q = none → H' q = some (.tup (s.told.map V.bl)) → Q (.ref q) H'
/-! ### the law's helpers -/
def sp_l_cell (K : PySem.W.Frag) : Sp := fun vs H Q _ => ∃ (a : Addr) (ns : List Int) (k : Nat), vs = [.ref a, .int k] ∧ SqL K H a (ns.map V.int) ∧ ∀ H', Ex H H' → Q (.int (cell ns k)) H'
def sp_l_mix (K : PySem.W.Frag) : Sp := fun vs H Q _ => ∃ (c p m : Int), vs = [.int c, .int p, .int m] ∧ 0 < p ∧ 0 < m ∧ ∀ H', Ex H H' → Q (.int (mix c p m)) H'
def sp_l_many (K : PySem.W.Frag) : Sp := fun vs H Q _ => ∃ (a : Addr) (ns : List Int), vs = [.ref a] ∧ SqL K H a (ns.map V.int) ∧ ∀ H', Ex H H' → Q (.int (many ns)) H'
/-- values that stand for the items, one by one -/
def Rels {α : Type} (R : α → V → Hp → Prop) (H : Hp) : List V → List α → Prop
  | [], [] => True
  | v :: vs, x :: xs => R x v H ∧ Rels R H vs xs
  | _, _ => False
def TupR {α : Type} (f : α → List V) : α → V → Hp → Prop := fun x v H => ∃ q, v = .ref q ∧ H q = some (.tup (f x))
abbrev Tups {α : Type} (f : α → List V) (H : Hp) (vs : List V) (xs : List α) : Prop := Rels (TupR f) H vs xs
def roadV (r : Nat × Nat) : List V := [.int r.1, .int r.2]
def actV : Act → List V
  | .send a b => [.str "send", .int a, .int b]
  | .take a b => [.str "take", .int a, .int b]
  | .rest a => [.str "rest", .int a]
  | .back a b => [.str "back", .int a, .int b]
  | .home a => [.str "home", .int a]
  | .pass => [.str "pass"]
def sp_l_roads (K : PySem.W.Frag) : Sp := fun vs H Q _ => ∃ (n : Nat), vs = [.int n] ∧ n ≤ 6 ∧ ∀ H' q us, Ex H H' → H q = none → H' q = some (.lst us) → Tups roadV H' us (roads n) → Q (.ref q) H'
def sp_l_choices (K : PySem.W.Frag) : Sp := fun vs H Q _ => ∃ (A : Ad) (s : S) (Z : Addr → Prop) (k : Int), vs = [.ref A.p, .int s.n, .int k] ∧ HallAt K Z H A s ∧ Good s ∧
  ∀ H' q us, Ex H H' → H q = none → H' q = some (.lst us) → Tups actV H' us (s.choices k) → Q (.ref q) H'
def sp_l_act (K : PySem.W.Frag) : Sp := fun vs H Q _ => ∃ (A : Ad) (s : S) (Z : Addr → Prop) (c : Int), vs = [.ref A.p, .int s.n, .int c] ∧ HallAt K Z H A s ∧ Good s ∧
  ∀ H' v, Ex H H' → (match s.pick c with
    | none => v = .non
    | some a => ∃ q, v = .ref q ∧ H' q = some (.tup (actV a))) → Q v H'
def sp_l_do (K : PySem.W.Frag) : Sp := fun vs H Q _ => ∃ (A : Ad) (s : S) (Z : Addr → Prop) (q : Addr) (a : Act), vs = [.ref A.p, .ref q] ∧ HallAt K Z H A s ∧ Good s ∧ s.Can a ∧ H q = some (.tup (actV a)) ∧
  ∀ H', HallAt K Z H' A (s.step a) → Kp A H H' → Q .non H'
/-- the law's: at most 63 numbers are handed in, True comes out -/
def sp_law (K : PySem.W.Frag) : Sp := fun vs H Q _ => ∃ (a : Addr) (ns : List Int), vs = [.ref a] ∧ SqL K H a (ns.map V.int) ∧ ns.length ≤ 63 ∧ ∀ H', Q (.bl true) H'
end QH

/-! The readings. -/
namespace QH
open PySem PySem.Spec PyProof.Rows L2 Evl
abbrev N_Ring_init : List Str := ["self", "many", "hand"]
def t_Ring_init (K : PySem.W.Frag) : TS :=
  (tSeq (sFld K (tVar 0) (tVar 1) "many") (tSeq (sFld K (tVar 0) (tLc (iRng1 (tCons (tVar 1) tNil)) (gName 2) tYes (tC (.int 0)) [2]) "counts") (tSeq (sFld K (tVar 0) (tLc (iRng1 (tCons (tVar 1) tNil)) (gName 2) tYes (tC (.str "white")) [2]) "colours") (tSeq (sFld K (tVar 0) (tC (.int 0)) "place") (tSeq (sFld K (tVar 0) (tC (.int 0)) "sum") (tSeq (sFld K (tVar 0) (tC (.str "white")) "colour") (tSeq (sFld K (tVar 0) (tC (.bl false)) "begun") (sFld K (tVar 0) (tC (.bl false)) "found"))))))))
abbrev N_Ring_sent : List Str := ["self", "one"]
def t_Ring_sent (K : PySem.W.Frag) : TS :=
  (tAsg (tOp rAddI (tOp (rIxL K) (tFld K (tVar 0) "counts") (tVar 1)) (tC (.int 1))) (gSub (tFld K (tVar 0) "counts") (tVar 1) rSetL))
abbrev N_Ring_taken : List Str := ["self", "other"]
def t_Ring_taken (K : PySem.W.Frag) : TS :=
  (tSeq (tAsg (tOp rSubI (tOp (rIxL K) (tFld K (tVar 0) "counts") (tVar 1)) (tC (.int 1))) (gSub (tFld K (tVar 0) "counts") (tVar 1) rSetL)) (tAsg (tC (.str "black")) (gSub (tFld K (tVar 0) "colours") (tVar 1) rSetL)))
abbrev N_Ring_passed : List Str := ["self", "hand", "clear"]
def t_Ring_passed (K : PySem.W.Frag) : TS :=
  (tSeq (tAsg (tFld K (tVar 0) "place") (gName 1)) (tSeq (tIfS (tTest (tOp rEq (tVar 1) (tC (.int 0)))) (tSeq (tAsg (tAndV (tOp rEq (tFld K (tVar 0) "colour") (tC (.str "white"))) (tOp rEq (tOp (rIxL K) (tFld K (tVar 0) "colours") (tC (.int 0))) (tC (.str "white")))) (gName 2)) (tSeq (tIfS (tAnd (tB (tFld K (tVar 0) "begun")) (tAnd (tB (tVar 2)) (tTest (tOp rEq (tOp rAddI (tFld K (tVar 0) "sum") (tOp (rIxL K) (tFld K (tVar 0) "counts") (tC (.int 0)))) (tC (.int 0)))))) (sFld K (tVar 0) (tC (.bl true)) "found") tNext) (tSeq (sFld K (tVar 0) (tC (.bl true)) "begun") (tSeq (sFld K (tVar 0) (tC (.int 0)) "sum") (tSeq (sFld K (tVar 0) (tC (.str "white")) "colour") (sFld K (tVar 0) (tOp rSubI (tFld K (tVar 0) "many") (tC (.int 1))) "place")))))) (tSeq (sFld K (tVar 0) (tOp rAddI (tFld K (tVar 0) "sum") (tOp (rIxL K) (tFld K (tVar 0) "counts") (tVar 1))) "sum") (tSeq (tIfS (tTest (tOp rEq (tOp (rIxL K) (tFld K (tVar 0) "colours") (tVar 1)) (tC (.str "black")))) (sFld K (tVar 0) (tC (.str "black")) "colour") tNext) (sFld K (tVar 0) (tOp rSubI (tVar 1) (tC (.int 1))) "place")))) (tAsg (tC (.str "white")) (gSub (tFld K (tVar 0) "colours") (tVar 1) rSetL))))
abbrev N_Tree_init : List Str := ["self", "many", "hand"]
def t_Tree_init (K : PySem.W.Frag) : TS :=
  (tSeq (sFld K (tVar 0) (tLc (iRng1 (tCons (tVar 1) tNil)) (gName 2) tYes (tC (.int 0)) [2]) "due") (tSeq (sFld K (tVar 0) (tLc (iRng1 (tCons (tVar 1) tNil)) (gName 2) tYes (tC .non) [2]) "over") (sFld K (tVar 0) tDNewT "slips")))
abbrev N_Tree_is_in : List Str := ["self", "hand"]
def t_Tree_is_in (K : PySem.W.Frag) : TS :=
  (tRet (tOrV (tOp rEq (tVar 1) (tC (.int 0))) (tNotN (tOp (rIxL K) (tFld K (tVar 0) "over") (tVar 1)))))
abbrev N_Tree_slip : List Str := ["self", "one", "other"]
def t_Tree_slip (K : PySem.W.Frag) : TS :=
  (sDPut (tFld K (tVar 0) "slips") (tTup (tCons (tVar 1) (tCons (tVar 2) tNil))) (tOp rAddI (tDGet2 (tFld K (tVar 0) "slips") (tTup (tCons (tVar 1) (tCons (tVar 2) tNil))) (tC (.int 0))) (tC (.int 1))))
abbrev N_Tree_sent : List Str := ["self", "one"]
def t_Tree_sent (K : PySem.W.Frag) : TS :=
  (tAsg (tOp rAddI (tOp (rIxL K) (tFld K (tVar 0) "due") (tVar 1)) (tC (.int 1))) (gSub (tFld K (tVar 0) "due") (tVar 1) rSetL))
abbrev N_Tree_taken : List Str := ["self", "one", "other"]
def t_Tree_taken (K : PySem.W.Frag) : TS :=
  (tIfS (tB (tMeth (He.ga K "Tree") "is_in" (sp_Tree_is_in K) [] E0 (tVar 0) (tCons (tVar 2) tNil))) (tDrop (tMeth (He.ga K "Tree") "slip" (sp_Tree_slip K) [] E0 (tVar 0) (tCons (tVar 1) (tCons (tVar 2) tNil)))) (tAsg (tVar 1) (gSub (tFld K (tVar 0) "over") (tVar 2) rSetL)))
abbrev N_Tree_settle : List Str := ["self", "hand", "works"]
def t_Tree_settle (K : PySem.W.Frag) : TS :=
  (tIfS (tAnd (tTest (tOp rGtI (tVar 1) (tC (.int 0)))) (tAnd (tB (tMeth (He.ga K "Tree") "is_in" (sp_Tree_is_in K) [] E0 (tVar 0) (tCons (tVar 1) tNil))) (tAnd (tNot (tB (tVar 2))) (tTest (tOp rEq (tOp (rIxL K) (tFld K (tVar 0) "due") (tVar 1)) (tC (.int 0))))))) (tSeq (tDrop (tMeth (He.ga K "Tree") "slip" (sp_Tree_slip K) [] E0 (tVar 0) (tCons (tOp (rIxL K) (tFld K (tVar 0) "over") (tVar 1)) (tCons (tVar 1) tNil)))) (tAsg (tC .non) (gSub (tFld K (tVar 0) "over") (tVar 1) rSetL))) tNext)
abbrev N_Tree_came_back : List Str := ["self", "one", "other"]
def t_Tree_came_back (K : PySem.W.Frag) : TS :=
  (tSeq (sDPut (tFld K (tVar 0) "slips") (tTup (tCons (tVar 1) (tCons (tVar 2) tNil))) (tOp rSubI (tDGet (tFld K (tVar 0) "slips") (tTup (tCons (tVar 1) (tCons (tVar 2) tNil)))) (tC (.int 1)))) (tAsg (tOp rSubI (tOp (rIxL K) (tFld K (tVar 0) "due") (tVar 1)) (tC (.int 1))) (gSub (tFld K (tVar 0) "due") (tVar 1) rSetL)))
abbrev N_normal : List Str := ["upper", "power"]
def t_normal (K : PySem.W.Frag) : TS :=
  (tSeq (tIfS (tTest (tOp rEq (tVar 0) (tC (.int 0)))) (tRet (tTup (tCons (tC (.int 0)) (tCons (tC (.int 0)) tNil)))) tNext) (tSeq (tWhile (tAnd (tTest (tOp rGtI (tVar 1) (tC (.int 0)))) (tTest (tOp rEq (tOp rModI (tVar 0) (tC (.int 2))) (tC (.int 0))))) (tSeq (tAsg (tOp rDivI (tVar 0) (tC (.int 2))) (gName 0)) (tAsg (tOp rSubI (tVar 1) (tC (.int 1))) (gName 1)))) (tRet (tTup (tCons (tVar 0) (tCons (tVar 1) tNil))))))
abbrev N_half : List Str := ["weight"]
def t_half (K : PySem.W.Frag) : TS :=
  (tSeq (tIfS (tTest (tOp rEq (tOp (rIxT K) (tVar 0) (tC (.int 0))) (tC (.int 0)))) (tRet (tTup (tCons (tC (.int 0)) (tCons (tC (.int 0)) tNil)))) tNext) (tRet (tCall (sp_normal K) [] E0 (tCons (tOp (rIxT K) (tVar 0) (tC (.int 0))) (tCons (tOp rAddI (tOp (rIxT K) (tVar 0) (tC (.int 1))) (tC (.int 1))) tNil)))))
abbrev N_plus : List Str := ["one", "other", "power"]
def t_plus (K : PySem.W.Frag) : TS :=
  (tSeq (tAsg (tCB rMax2 (tCons (tOp (rIxT K) (tVar 0) (tC (.int 1))) (tCons (tOp (rIxT K) (tVar 1) (tC (.int 1))) tNil))) (gName 2)) (tRet (tCall (sp_normal K) [] E0 (tCons (tOp rAddI (tOp rShlI (tOp (rIxT K) (tVar 0) (tC (.int 0))) (tOp rSubI (tVar 2) (tOp (rIxT K) (tVar 0) (tC (.int 1))))) (tOp rShlI (tOp (rIxT K) (tVar 1) (tC (.int 0))) (tOp rSubI (tVar 2) (tOp (rIxT K) (tVar 1) (tC (.int 1)))))) (tCons (tVar 2) tNil)))))
abbrev N_Weights_init : List Str := ["self", "many", "hand"]
def t_Weights_init (K : PySem.W.Frag) : TS :=
  (tSeq (sFld K (tVar 0) (tLc (iRng1 (tCons (tVar 1) tNil)) (gName 2) tYes (tTup (tCons (tC (.int 0)) (tCons (tC (.int 0)) tNil))) [2]) "held") (tSeq (tAsg (tTup (tCons (tC (.int 1)) (tCons (tC (.int 0)) tNil))) (gSub (tFld K (tVar 0) "held") (tC (.int 0)) rSetL)) (sFld K (tVar 0) (tLc (iRng1 (tCons (tVar 1) tNil)) (gName 2) tYes (tLst tNil) [2]) "homeward")))
abbrev N_Weights_split : List Str := ["self", "hand"]
def t_Weights_split (K : PySem.W.Frag) : TS :=
  (tSeq (tAsg (tCall (sp_half K) [] E0 (tCons (tOp (rIxL K) (tFld K (tVar 0) "held") (tVar 1)) tNil)) (gSub (tFld K (tVar 0) "held") (tVar 1) rSetL)) (tRet (tOp (rIxL K) (tFld K (tVar 0) "held") (tVar 1))))
abbrev N_Weights_add : List Str := ["self", "hand", "weight"]
def t_Weights_add (K : PySem.W.Frag) : TS :=
  (tAsg (tCall (sp_plus K) [] E0 (tCons (tOp (rIxL K) (tFld K (tVar 0) "held") (tVar 1)) (tCons (tVar 2) tNil))) (gSub (tFld K (tVar 0) "held") (tVar 1) rSetL))
abbrev N_Weights_rested : List Str := ["self", "hand"]
def t_Weights_rested (K : PySem.W.Frag) : TS :=
  (tIfS (tTest (tOp rGtI (tVar 1) (tC (.int 0)))) (tSeq (tDrop (tBM K "list" rAppend (tOp (rIxL K) (tFld K (tVar 0) "homeward") (tVar 1)) (tCons (tOp (rIxL K) (tFld K (tVar 0) "held") (tVar 1)) tNil))) (tAsg (tTup (tCons (tC (.int 0)) (tCons (tC (.int 0)) tNil))) (gSub (tFld K (tVar 0) "held") (tVar 1) rSetL))) tNext)
abbrev N_Weights_came_home : List Str := ["self", "hand"]
def t_Weights_came_home (K : PySem.W.Frag) : TS :=
  (tDrop (tMeth (He.ga K "Weights") "add" (sp_Weights_add K) [] E0 (tVar 0) (tCons (tC (.int 0)) (tCons (tBM K "list" rPopAt (tOp (rIxL K) (tFld K (tVar 0) "homeward") (tVar 1)) (tCons (tC (.int 0)) tNil)) tNil))))
abbrev N_Hall_init : List Str := ["self", "many", "hand"]
def t_Hall_init (K : PySem.W.Frag) : TS :=
  (tSeq (sFld K (tVar 0) (tVar 1) "many") (tSeq (sFld K (tVar 0) (tLc (iRng1 (tCons (tVar 1) tNil)) (gName 2) tYes (tOp rEq (tVar 2) (tC (.int 0))) [2]) "busy") (tSeq (sFld K (tVar 0) tDNewT "rows") (tSeq (sFld K (tVar 0) (tMake (He.ga K "Tree") (sp_Tree_init K) [] E0 (tCons (tVar 1) tNil)) "tree") (tSeq (sFld K (tVar 0) (tMake (He.ga K "Weights") (sp_Weights_init K) [] E0 (tCons (tVar 1) tNil)) "scales") (sFld K (tVar 0) (tMake (He.ga K "Ring") (sp_Ring_init K) [] E0 (tCons (tVar 1) tNil)) "ring"))))))
abbrev N_Hall_must_be : List Str := ["self", "hand"]
def t_Hall_must_be (K : PySem.W.Frag) : TS :=
  (tIfS (tNot (tTest (tChain rLeI rLtI (tC (.int 0)) (tVar 1) (tFld K (tVar 0) "many")))) tNever tNext)
abbrev N_Hall_must_be_two : List Str := ["self", "one", "other"]
def t_Hall_must_be_two (K : PySem.W.Frag) : TS :=
  (tSeq (tDrop (tMeth (He.ga K "Hall") "must_be" (sp_Hall_must_be K) [] E0 (tVar 0) (tCons (tVar 1) tNil))) (tSeq (tDrop (tMeth (He.ga K "Hall") "must_be" (sp_Hall_must_be K) [] E0 (tVar 0) (tCons (tVar 2) tNil))) (tIfS (tTest (tOp rEq (tVar 1) (tVar 2))) tNever tNext)))
abbrev N_Hall_must : List Str := ["self", "holds"]
def t_Hall_must (K : PySem.W.Frag) : TS :=
  (tIfS (tNot (tB (tVar 1))) tNever tNext)
abbrev N_Hall_row : List Str := ["self", "one", "other"]
def t_Hall_row (K : PySem.W.Frag) : TS :=
  (tRet (tDGet2 (tFld K (tVar 0) "rows") (tTup (tCons (tVar 1) (tCons (tVar 2) tNil))) (tLst tNil)))
abbrev N_Hall_send : List Str := ["self", "one", "other"]
def t_Hall_send (K : PySem.W.Frag) : TS :=
  (tSeq (tDrop (tMeth (He.ga K "Hall") "must_be_two" (sp_Hall_must_be_two K) [] E0 (tVar 0) (tCons (tVar 1) (tCons (tVar 2) tNil)))) (tSeq (tDrop (tMeth (He.ga K "Hall") "must" (sp_Hall_must K) [] E0 (tVar 0) (tCons (tOp (rIxL K) (tFld K (tVar 0) "busy") (tVar 1)) tNil))) (tSeq (sDPut (tFld K (tVar 0) "rows") (tTup (tCons (tVar 1) (tCons (tVar 2) tNil))) (tOp rCat (tMeth (He.ga K "Hall") "row" (sp_Hall_row K) [] E0 (tVar 0) (tCons (tVar 1) (tCons (tVar 2) tNil))) (tLst (tCons (tMeth (He.ga K "Weights") "split" (sp_Weights_split K) [] E0 (tFld K (tVar 0) "scales") (tCons (tVar 1) tNil)) tNil)))) (tSeq (tDrop (tMeth (He.ga K "Tree") "sent" (sp_Tree_sent K) [] E0 (tFld K (tVar 0) "tree") (tCons (tVar 1) tNil))) (tDrop (tMeth (He.ga K "Ring") "sent" (sp_Ring_sent K) [] E0 (tFld K (tVar 0) "ring") (tCons (tVar 1) tNil)))))))
abbrev N_Hall_take : List Str := ["self", "one", "other"]
def t_Hall_take (K : PySem.W.Frag) : TS :=
  (tSeq (tDrop (tMeth (He.ga K "Hall") "must_be_two" (sp_Hall_must_be_two K) [] E0 (tVar 0) (tCons (tVar 1) (tCons (tVar 2) tNil)))) (tSeq (tDrop (tMeth (He.ga K "Hall") "must" (sp_Hall_must K) [] E0 (tVar 0) (tCons (tOp rGtI (tCB (rLenS K) (tCons (tMeth (He.ga K "Hall") "row" (sp_Hall_row K) [] E0 (tVar 0) (tCons (tVar 1) (tCons (tVar 2) tNil))) tNil)) (tC (.int 0))) tNil))) (tSeq (tDrop (tMeth (He.ga K "Weights") "add" (sp_Weights_add K) [] E0 (tFld K (tVar 0) "scales") (tCons (tVar 2) (tCons (tOp (rIxL K) (tMeth (He.ga K "Hall") "row" (sp_Hall_row K) [] E0 (tVar 0) (tCons (tVar 1) (tCons (tVar 2) tNil))) (tC (.int 0))) tNil)))) (tSeq (sDPut (tFld K (tVar 0) "rows") (tTup (tCons (tVar 1) (tCons (tVar 2) tNil))) (tSl (rSlL K) (tMeth (He.ga K "Hall") "row" (sp_Hall_row K) [] E0 (tVar 0) (tCons (tVar 1) (tCons (tVar 2) tNil))) (tPart (tC (.int 1))) tNoPart)) (tSeq (tAsg (tC (.bl true)) (gSub (tFld K (tVar 0) "busy") (tVar 2) rSetL)) (tSeq (tDrop (tMeth (He.ga K "Tree") "taken" (sp_Tree_taken K) [] E0 (tFld K (tVar 0) "tree") (tCons (tVar 1) (tCons (tVar 2) tNil)))) (tDrop (tMeth (He.ga K "Ring") "taken" (sp_Ring_taken K) [] E0 (tFld K (tVar 0) "ring") (tCons (tVar 2) tNil)))))))))
abbrev N_Hall_rest : List Str := ["self", "hand"]
def t_Hall_rest (K : PySem.W.Frag) : TS :=
  (tSeq (tDrop (tMeth (He.ga K "Hall") "must_be" (sp_Hall_must_be K) [] E0 (tVar 0) (tCons (tVar 1) tNil))) (tSeq (tDrop (tMeth (He.ga K "Hall") "must" (sp_Hall_must K) [] E0 (tVar 0) (tCons (tOp (rIxL K) (tFld K (tVar 0) "busy") (tVar 1)) tNil))) (tSeq (tAsg (tC (.bl false)) (gSub (tFld K (tVar 0) "busy") (tVar 1) rSetL)) (tSeq (tDrop (tMeth (He.ga K "Weights") "rested" (sp_Weights_rested K) [] E0 (tFld K (tVar 0) "scales") (tCons (tVar 1) tNil))) (tDrop (tMeth (He.ga K "Tree") "settle" (sp_Tree_settle K) [] E0 (tFld K (tVar 0) "tree") (tCons (tVar 1) (tCons (tC (.bl false)) tNil))))))))
abbrev N_Hall_back : List Str := ["self", "one", "other"]
def t_Hall_back (K : PySem.W.Frag) : TS :=
  (tSeq (tDrop (tMeth (He.ga K "Hall") "must_be_two" (sp_Hall_must_be_two K) [] E0 (tVar 0) (tCons (tVar 1) (tCons (tVar 2) tNil)))) (tSeq (tDrop (tMeth (He.ga K "Hall") "must" (sp_Hall_must K) [] E0 (tVar 0) (tCons (tOp rGtI (tMeth (He.ga K "Hall") "receipts" (sp_Hall_receipts K) [] E0 (tVar 0) (tCons (tVar 1) (tCons (tVar 2) tNil))) (tC (.int 0))) tNil))) (tSeq (tDrop (tMeth (He.ga K "Tree") "came_back" (sp_Tree_came_back K) [] E0 (tFld K (tVar 0) "tree") (tCons (tVar 1) (tCons (tVar 2) tNil)))) (tDrop (tMeth (He.ga K "Tree") "settle" (sp_Tree_settle K) [] E0 (tFld K (tVar 0) "tree") (tCons (tVar 1) (tCons (tOp (rIxL K) (tFld K (tVar 0) "busy") (tVar 1)) tNil)))))))
abbrev N_Hall_home : List Str := ["self", "hand"]
def t_Hall_home (K : PySem.W.Frag) : TS :=
  (tSeq (tDrop (tMeth (He.ga K "Hall") "must_be" (sp_Hall_must_be K) [] E0 (tVar 0) (tCons (tVar 1) tNil))) (tSeq (tIfS (tTest (tOp rEq (tVar 1) (tC (.int 0)))) tNever tNext) (tSeq (tDrop (tMeth (He.ga K "Hall") "must" (sp_Hall_must K) [] E0 (tVar 0) (tCons (tOp rGtI (tCB (rLenS K) (tCons (tOp (rIxL K) (tFld K (tFld K (tVar 0) "scales") "homeward") (tVar 1)) tNil)) (tC (.int 0))) tNil))) (tDrop (tMeth (He.ga K "Weights") "came_home" (sp_Weights_came_home K) [] E0 (tFld K (tVar 0) "scales") (tCons (tVar 1) tNil))))))
abbrev N_Hall_pass_on : List Str := ["self"]
def t_Hall_pass_on (K : PySem.W.Frag) : TS :=
  (tSeq (tDrop (tMeth (He.ga K "Hall") "must" (sp_Hall_must K) [] E0 (tVar 0) (tCons (tNotV (tOp (rIxL K) (tFld K (tVar 0) "busy") (tFld K (tFld K (tVar 0) "ring") "place"))) tNil))) (tDrop (tMeth (He.ga K "Ring") "passed" (sp_Ring_passed K) [] E0 (tFld K (tVar 0) "ring") tNil)))
abbrev N_Hall_working : List Str := ["self", "hand"]
def t_Hall_working (K : PySem.W.Frag) : TS :=
  (tRet (tCB (rTupOf K) (tCons (tLc (iRng1 (tCons (tFld K (tVar 0) "many") tNil)) (gName 1) (tB (tOp (rIxL K) (tFld K (tVar 0) "busy") (tVar 1))) (tVar 1) [1]) tNil)))
abbrev N_Hall_works : List Str := ["self", "one", "other"]
def t_Hall_works (K : PySem.W.Frag) : TS :=
  (tSeq (tDrop (tMeth (He.ga K "Hall") "must_be_two" (sp_Hall_must_be_two K) [] E0 (tVar 0) (tCons (tVar 1) (tCons (tVar 2) tNil)))) (tRet (tCB (rLenS K) (tCons (tMeth (He.ga K "Hall") "row" (sp_Hall_row K) [] E0 (tVar 0) (tCons (tVar 1) (tCons (tVar 2) tNil))) tNil))))
abbrev N_Hall_open_of : List Str := ["self", "hand"]
def t_Hall_open_of (K : PySem.W.Frag) : TS :=
  (tSeq (tDrop (tMeth (He.ga K "Hall") "must_be" (sp_Hall_must_be K) [] E0 (tVar 0) (tCons (tVar 1) tNil))) (tRet (tOp (rIxL K) (tFld K (tFld K (tVar 0) "tree") "due") (tVar 1))))
abbrev N_Hall_above : List Str := ["self", "hand"]
def t_Hall_above (K : PySem.W.Frag) : TS :=
  (tSeq (tDrop (tMeth (He.ga K "Hall") "must_be" (sp_Hall_must_be K) [] E0 (tVar 0) (tCons (tVar 1) tNil))) (tRet (tOp (rIxL K) (tFld K (tFld K (tVar 0) "tree") "over") (tVar 1))))
abbrev N_Hall_receipts : List Str := ["self", "one", "other"]
def t_Hall_receipts (K : PySem.W.Frag) : TS :=
  (tSeq (tDrop (tMeth (He.ga K "Hall") "must_be_two" (sp_Hall_must_be_two K) [] E0 (tVar 0) (tCons (tVar 1) (tCons (tVar 2) tNil)))) (tRet (tDGet2 (tFld K (tFld K (tVar 0) "tree") "slips") (tTup (tCons (tVar 1) (tCons (tVar 2) tNil))) (tC (.int 0)))))
abbrev N_Hall_weights_home : List Str := ["self", "hand"]
def t_Hall_weights_home (K : PySem.W.Frag) : TS :=
  (tSeq (tDrop (tMeth (He.ga K "Hall") "must_be" (sp_Hall_must_be K) [] E0 (tVar 0) (tCons (tVar 1) tNil))) (tRet (tCB (rTupOf K) (tCons (tOp (rIxL K) (tFld K (tFld K (tVar 0) "scales") "homeward") (tVar 1)) tNil))))
abbrev N_Hall_token : List Str := ["self"]
def t_Hall_token (K : PySem.W.Frag) : TS :=
  (tRet (tTup (tCons (tFld K (tFld K (tVar 0) "ring") "place") (tCons (tFld K (tFld K (tVar 0) "ring") "sum") (tCons (tFld K (tFld K (tVar 0) "ring") "colour") tNil)))))
abbrev N_Hall_told : List Str := ["self", "calm"]
def t_Hall_told (K : PySem.W.Frag) : TS :=
  (tSeq (tAsg (tNotV (tOp (rIxL K) (tFld K (tVar 0) "busy") (tC (.int 0)))) (gName 1)) (tRet (tTup (tCons (tAndV (tVar 1) (tOp rEq (tOp (rIxL K) (tFld K (tFld K (tVar 0) "tree") "due") (tC (.int 0))) (tC (.int 0)))) (tCons (tAndV (tVar 1) (tOp (rEqD K) (tOp (rIxL K) (tFld K (tFld K (tVar 0) "scales") "held") (tC (.int 0))) (tTup (tCons (tC (.int 1)) (tCons (tC (.int 0)) tNil))))) (tCons (tFld K (tFld K (tVar 0) "ring") "found") tNil))))))
abbrev N_l_cell : List Str := ["_law_script", "_law_k"]
def t_l_cell (K : PySem.W.Frag) : TS :=
  (tSeq (tIfS (tTest (tOp rLtI (tVar 1) (tCB (rLenS K) (tCons (tVar 0) tNil)))) (tRet (tOp (rIxL K) (tVar 0) (tVar 1))) tNext) (tRet (tC (.int 0))))
abbrev N_l_mix : List Str := ["_law_cell_here", "_law_prime", "_law_many_here"]
def t_l_mix (K : PySem.W.Frag) : TS :=
  (tRet (tOp rModI (tOp rModI (tOp rMulI (tVar 0) (tC (.int 48271))) (tVar 1)) (tVar 2)))
abbrev N_l_many : List Str := ["_law_script"]
def t_l_many (K : PySem.W.Frag) : TS :=
  (tRet (tOp rAddI (tC (.int 2)) (tCall (sp_l_mix K) [] E0 (tCons (tCall (sp_l_cell K) [] E0 (tCons (tVar 0) (tCons (tC (.int 0)) tNil))) (tCons (tC (.int 9973)) (tCons (tC (.int 5)) tNil))))))
abbrev N_l_roads : List Str := ["_law_many_here", "_law_found", "_law_one", "_law_other"]
def t_l_roads (K : PySem.W.Frag) : TS :=
  (tSeq (tAsg (tLst tNil) (gName 1)) (tSeq (tFor (iRng1 (tCons (tVar 0) tNil)) (gName 2) (tDrop (tBM K "list" rExtend (tVar 1) (tCons (tLc (iRng1 (tCons (tVar 0) tNil)) (gName 3) (tTest (tOp rNe (tVar 2) (tVar 3))) (tTup (tCons (tVar 2) (tCons (tVar 3) tNil))) [3]) tNil)))) (tRet (tVar 1))))
abbrev N_l_choices : List Str := ["_law_hall", "_law_many_here", "_law_kind", "_law_roads_here", "_law_hand", "_law_road"]
def t_l_choices (K : PySem.W.Frag) : TS :=
  (tSeq (tAsg (tCall (sp_l_roads K) [] E0 (tCons (tVar 1) tNil)) (gName 3)) (tSeq (tIfS (tTest (tOp rLtI (tVar 2) (tC (.int 3)))) (tRet (tLc (iList K (tVar 3)) (gName 5) (tTest (tOp (rIn K false) (tOp (rIxT K) (tVar 5) (tC (.int 0))) (tMeth (He.ga K "Hall") "working" (sp_Hall_working K) [] E0 (tVar 0) tNil))) (tOp (rCatT K) (tTup (tCons (tC (.str "send")) tNil)) (tVar 5)) [5])) tNext) (tSeq (tIfS (tTest (tOp rLtI (tVar 2) (tC (.int 6)))) (tRet (tLc (iList K (tVar 3)) (gName 5) (tTest (tOp rGtI (tMeth (He.ga K "Hall") "works" (sp_Hall_works K) [] E0 (tVar 0) (tCons (tOp (rIxT K) (tVar 5) (tC (.int 0))) (tCons (tOp (rIxT K) (tVar 5) (tC (.int 1))) tNil))) (tC (.int 0)))) (tOp (rCatT K) (tTup (tCons (tC (.str "take")) tNil)) (tVar 5)) [5])) tNext) (tSeq (tIfS (tTest (tOp rLtI (tVar 2) (tC (.int 9)))) (tRet (tLc (iTup K (tMeth (He.ga K "Hall") "working" (sp_Hall_working K) [] E0 (tVar 0) tNil)) (gName 4) tYes (tTup (tCons (tC (.str "rest")) (tCons (tVar 4) tNil))) [4])) tNext) (tSeq (tIfS (tTest (tOp rLtI (tVar 2) (tC (.int 11)))) (tRet (tLc (iList K (tVar 3)) (gName 5) (tTest (tOp rGtI (tMeth (He.ga K "Hall") "receipts" (sp_Hall_receipts K) [] E0 (tVar 0) (tCons (tOp (rIxT K) (tVar 5) (tC (.int 0))) (tCons (tOp (rIxT K) (tVar 5) (tC (.int 1))) tNil))) (tC (.int 0)))) (tOp (rCatT K) (tTup (tCons (tC (.str "back")) tNil)) (tVar 5)) [5])) tNext) (tSeq (tIfS (tTest (tOp rEq (tVar 2) (tC (.int 11)))) (tRet (tLc (iRng2 (tCons (tC (.int 1)) (tCons (tVar 1) tNil))) (gName 4) (tTest (tOp rGtI (tCB (rLenS K) (tCons (tMeth (He.ga K "Hall") "weights_home" (sp_Hall_weights_home K) [] E0 (tVar 0) (tCons (tVar 4) tNil)) tNil)) (tC (.int 0)))) (tTup (tCons (tC (.str "home")) (tCons (tVar 4) tNil))) [4])) tNext) (tRet (tLc (iList K (tLst (tCons (tOp (rIxT K) (tMeth (He.ga K "Hall") "token" (sp_Hall_token K) [] E0 (tVar 0) tNil) (tC (.int 0))) tNil))) (gName 4) (tTest (tOp (rIn K true) (tVar 4) (tMeth (He.ga K "Hall") "working" (sp_Hall_working K) [] E0 (tVar 0) tNil))) (tTup (tCons (tC (.str "pass")) tNil)) [4]))))))))
abbrev N_l_act : List Str := ["_law_hall", "_law_many_here", "_law_cell_here", "_law_some"]
def t_l_act (K : PySem.W.Frag) : TS :=
  (tSeq (tAsg (tCall (sp_l_choices K) [] E0 (tCons (tVar 0) (tCons (tVar 1) (tCons (tCall (sp_l_mix K) [] E0 (tCons (tVar 2) (tCons (tC (.int 9967)) (tCons (tC (.int 14)) tNil)))) tNil)))) (gName 3)) (tSeq (tIfS (tNot (tTr K (tVar 3))) (tAsg (tCall (sp_l_choices K) [] E0 (tCons (tVar 0) (tCons (tVar 1) (tCons (tCall (sp_l_mix K) [] E0 (tCons (tVar 2) (tCons (tC (.int 9949)) (tCons (tC (.int 14)) tNil)))) tNil)))) (gName 3)) tNext) (tSeq (tIfS (tNot (tTr K (tVar 3))) (tRet (tC .non)) tNext) (tRet (tOp (rIxL K) (tVar 3) (tCall (sp_l_mix K) [] E0 (tCons (tVar 2) (tCons (tC (.int 9941)) (tCons (tCB (rLenS K) (tCons (tVar 3) tNil)) tNil)))))))))
abbrev N_l_do : List Str := ["_law_hall", "_law_act_here"]
def t_l_do (K : PySem.W.Frag) : TS :=
  (tSeq (tIfS (tTest (tOp rEq (tOp (rIxT K) (tVar 1) (tC (.int 0))) (tC (.str "send")))) (tRet (tMeth (He.ga K "Hall") "send" (sp_Hall_send K) [] E0 (tVar 0) (tCons (tOp (rIxT K) (tVar 1) (tC (.int 1))) (tCons (tOp (rIxT K) (tVar 1) (tC (.int 2))) tNil)))) tNext) (tSeq (tIfS (tTest (tOp rEq (tOp (rIxT K) (tVar 1) (tC (.int 0))) (tC (.str "take")))) (tRet (tMeth (He.ga K "Hall") "take" (sp_Hall_take K) [] E0 (tVar 0) (tCons (tOp (rIxT K) (tVar 1) (tC (.int 1))) (tCons (tOp (rIxT K) (tVar 1) (tC (.int 2))) tNil)))) tNext) (tSeq (tIfS (tTest (tOp rEq (tOp (rIxT K) (tVar 1) (tC (.int 0))) (tC (.str "rest")))) (tRet (tMeth (He.ga K "Hall") "rest" (sp_Hall_rest K) [] E0 (tVar 0) (tCons (tOp (rIxT K) (tVar 1) (tC (.int 1))) tNil))) tNext) (tSeq (tIfS (tTest (tOp rEq (tOp (rIxT K) (tVar 1) (tC (.int 0))) (tC (.str "back")))) (tRet (tMeth (He.ga K "Hall") "back" (sp_Hall_back K) [] E0 (tVar 0) (tCons (tOp (rIxT K) (tVar 1) (tC (.int 1))) (tCons (tOp (rIxT K) (tVar 1) (tC (.int 2))) tNil)))) tNext) (tSeq (tIfS (tTest (tOp rEq (tOp (rIxT K) (tVar 1) (tC (.int 0))) (tC (.str "home")))) (tRet (tMeth (He.ga K "Hall") "home" (sp_Hall_home K) [] E0 (tVar 0) (tCons (tOp (rIxT K) (tVar 1) (tC (.int 1))) tNil))) tNext) (tRet (tMeth (He.ga K "Hall") "pass_on" (sp_Hall_pass_on K) [] E0 (tVar 0) tNil)))))))
abbrev N_Hall_weight_of : List Str := ["self", "hand"]
def t_Hall_weight_of (K : PySem.W.Frag) : TS :=
  (tSeq (tDrop (tMeth (He.ga K "Hall") "must_be" (sp_Hall_must_be K) [] E0 (tVar 0) (tCons (tVar 1) tNil))) (tRet (tOp (rIxL K) (tFld K (tFld K (tVar 0) "scales") "held") (tVar 1))))
abbrev N_Hall_weights_on : List Str := ["self", "one", "other"]
def t_Hall_weights_on (K : PySem.W.Frag) : TS :=
  (tSeq (tDrop (tMeth (He.ga K "Hall") "must_be_two" (sp_Hall_must_be_two K) [] E0 (tVar 0) (tCons (tVar 1) (tCons (tVar 2) tNil)))) (tRet (tCB (rTupOf K) (tCons (tMeth (He.ga K "Hall") "row" (sp_Hall_row K) [] E0 (tVar 0) (tCons (tVar 1) (tCons (tVar 2) tNil))) tNil))))
abbrev N_Hall_count_of : List Str := ["self", "hand"]
def t_Hall_count_of (K : PySem.W.Frag) : TS :=
  (tSeq (tDrop (tMeth (He.ga K "Hall") "must_be" (sp_Hall_must_be K) [] E0 (tVar 0) (tCons (tVar 1) tNil))) (tRet (tOp (rIxL K) (tFld K (tFld K (tVar 0) "ring") "counts") (tVar 1))))
abbrev N_Hall_colour_of : List Str := ["self", "hand"]
def t_Hall_colour_of (K : PySem.W.Frag) : TS :=
  (tSeq (tDrop (tMeth (He.ga K "Hall") "must_be" (sp_Hall_must_be K) [] E0 (tVar 0) (tCons (tVar 1) tNil))) (tRet (tOp (rIxL K) (tFld K (tFld K (tVar 0) "ring") "colours") (tVar 1))))
end QH

/-! What the program's defs do: ring, tree. -/
namespace QH
open PySem PySem.Spec PyProof.Rows L2 Evl
/-! ### evaluation to something -/
def EvR (te : TE) (σ : L2.St) (H : Hp) (P : V → Hp → Prop) : Prop := ∀ H1, Ex H H1 → ∀ Q : VK, (∀ v H2, Ex H1 H2 → P v H2 → Q v H2) → te σ H1 Q
def SpR (sp : Sp) (vs : List V) (H : Hp) (P : V → Hp → Prop) : Prop := ∀ H1, Ex H H1 → ∀ Q : VK, (∀ v H2, Ex H1 H2 → P v H2 → Q v H2) → ∀ E : XK, sp vs H1 Q E
section
variable {K : PySem.W.Frag} {σ : L2.St} {H H' : Hp} {ta tb te tv : TE} {t u : TT} {x y z v : V} {a C dx : Addr} {fs : List (Str × V)} {f m : Str} {D : Ends} {P P' : V → Hp → Prop}
theorem EvR.mono (e : Ex H H') (h : EvR te σ H P) : EvR te σ H' P := fun H1 e1 Q q => h H1 (e.trans e1) Q q
theorem EvR.imp (h : EvR te σ H P) (i : ∀ v H2, Ex H H2 → P v H2 → P' v H2) : EvR te σ H P' := fun H1 e1 Q q => h H1 e1 Q fun v H2 e2 p => q v H2 e2 (i v H2 (e1.trans e2) p)
theorem evr_ev (h : Ev te σ H v) : EvR te σ H (fun w _ => w = v) := fun H1 e Q q => h H1 e Q fun H2 e2 => q v H2 e2 rfl
theorem evr_tup {xs : List V} (h : EvU te σ H xs) : EvR te σ H (fun w H2 => ∃ q, w = .ref q ∧ H q = none ∧ H2 q = some (.tup xs)) := fun H1 e Q q => h H1 e Q fun p H2 n e2 hp => q _ H2 e2 ⟨p, rfl, fresh_back e n, hp⟩
theorem evr_call {sp : Sp} {tg : TA} {vs : List V} (hv : EvA tg σ H vs) (hs : SpR sp (vs ++ []) H P) : EvR (tCall sp [] E0 tg) σ H P := fun H1 e Q q =>
  hv H1 e _ fun H2 e2 => hs H2 (e.trans e2) Q (fun v H3 e3 p => q v H3 (e2.trans e3) p) E0
theorem evr_meth {sp : Sp} {tg : TA} {vs : List V} (h : Ev ta σ H (.ref a)) (ho : H a = some (.ins C dx fs)) (hm : fs.lookup m = none) (hv : EvA tg σ H vs) (hs : SpR sp (.ref a :: (vs ++ [])) H P) : EvR (tMeth C m sp [] E0 ta tg) σ H P :=
  fun H1 e Q q => h H1 e _ fun H2 e2 => ⟨a, dx, fs, rfl, (e.trans e2) _ _ ho, hm, hv H2 (e.trans e2) _ fun H3 e3 => hs H3 ((e.trans e2).trans e3) Q (fun v H4 e4 p => q v H4 ((e2.trans e3).trans e4) p) E0⟩
theorem s_retR (h : EvR te σ H P) (k : ∀ v H1, Ex H H1 → P v H1 → D.rt v H1) : tRet te D σ H := h H (Ex.refl H) _ k
theorem s_asgR {i : Nat} (h : EvR te σ H P) (k : ∀ v H1, Ex H H1 → P v H1 → D.nx (σ.set i (some v)) H1) : tAsg te (gName i) D σ H := h H (Ex.refl H) _ k
theorem ev_dget2 {d : Addr} {kvs : List (List Key × V)} {i j : Nat} {td ty tx : TE} (hd : Ev td σ H (.ref d)) (hk : EvU ty σ H [.int i, .int j]) (hx : Ev tx σ H z) (h : H d = some (.dT kvs)) : Ev (tDGet2 td ty tx) σ H ((valV kvs (key i j)).getD z) := fun H1 e Q q =>
  hd H1 e _ fun H2 e2 => ⟨d, rfl, Or.inr ⟨kvs, Or.inl ((e.trans e2) _ _ h)⟩, hk H2 (e.trans e2) _ fun p H3 hp e3 hpt => hx H3 ((e.trans e2).trans e3) _ fun H4 e4 =>
    ⟨_, DGet.t (k := key i j) (((e.trans e2).trans (e3.trans e4)) _ _ h) (e4 _ _ hpt), q H4 ((e2.trans e3).trans e4)⟩⟩
theorem ev_dget {d : Addr} {kvs : List (List Key × V)} {i j : Nat} {td ty : TE} (hd : Ev td σ H (.ref d)) (hk : EvU ty σ H [.int i, .int j]) (h : H d = some (.dT kvs)) (hv : valV kvs (key i j) = some v) : Ev (tDGet td ty) σ H v := fun H1 e Q q =>
  hd H1 e _ fun H2 e2 => hk H2 (e.trans e2) _ fun p H3 hp e3 hpt => ⟨d, v, rfl, by rw [← hv]; exact DGet.t (k := key i j) (((e.trans e2).trans e3) _ _ h) hpt, q H3 (e2.trans e3)⟩
theorem s_dput {d : Addr} {kvs : List (List Key × V)} {i j : Nat} {td ty : TE} (hv : Ev tv σ H v) (hd : Ev td σ H (.ref d)) (hk : EvU ty σ H [.int i, .int j]) (h : H d = some (.dT kvs)) (hl : kvs.length ≤ 36)
    (k : ∀ H1, Ex H H1 → D.nx σ (upd H1 d (.dT (putK kvs (key i j) v)))) : sDPut td ty tv D σ H :=
  hv H (Ex.refl H) _ fun H1 e1 => hd H1 e1 _ fun H2 e2 => hk H2 (e1.trans e2) _ fun p H3 hp e3 hpt =>
    ⟨d, _, rfl, DPut.t (k := key i j) (((e1.trans e2).trans e3) _ _ h) hpt (Nat.lt_of_le_of_lt hl (by decide)), k H3 ((e1.trans e2).trans e3)⟩
theorem eu_pair {i j : Nat} {ti tj : TE} (hi : Ev ti σ H (.int i)) (hj : Ev tj σ H (.int j)) : EvU (tTup (tCons ti (tCons tj tNil))) σ H [.int i, .int j] := eu_tup (ea_cons hi (ea_cons hj ea_nil)) (by show 2 ≤ 100000; decide)
end
section
variable {K : PySem.W.Frag} {Z : Addr → Prop} {H : Hp} {A : Ad} {s : S}
theorem spv_ask1 {rcv : Ad → Addr} {pre : S → Nat → Prop} {val : S → Nat → V} {a : Nat} (h : HallAt K Z H A s) (p : pre s a) : SpV (spAsk1 K rcv pre val) [.ref (rcv A), .int a] H (val s a) := fun H1 e Q q E => ⟨A, s, Z, a, rfl, h.mono e, p, fun H' e' => q H' e'⟩
theorem spv_ask2 {rcv : Ad → Addr} {pre : S → Nat → Nat → Prop} {val : S → Nat → Nat → V} {a b : Nat} (h : HallAt K Z H A s) (p : pre s a b) : SpV (spAsk2 K rcv pre val) [.ref (rcv A), .int a, .int b] H (val s a b) := fun H1 e Q q E => ⟨A, s, Z, a, b, rfl, h.mono e, p, fun H' e' => q H' e'⟩
theorem spv_ask0 {rcv : Ad → Addr} {val : S → V} (h : HallAt K Z H A s) : SpV (spAsk0 K rcv val) [.ref (rcv A)] H (val s) := fun H1 e Q q E => ⟨A, s, Z, rfl, h.mono e, fun H' e' => q H' e'⟩
end
/-! ### stores of a hall -/
section
variable {K : PySem.W.Frag} {Z : Addr → Prop} {σ : L2.St} {H : Hp} {ta tb te tv : TE} {A : Ad} {s : S} {D : Ends} {j : Nat}
theorem kp_st {H1 : Hp} {x : Addr} {o : HO} {n : Nat} (e : Ex H H1) (r : A.R x = n) (h : n ≠ 0) : Kp A H (upd H1 x o) := (Kp.ex e).trans (Kp.upd (by rw [r]; exact h))
theorem s_Ring_counts (T : TxtK K) (h : HallAt K Z H A s) {x : Int} (hv : Ev te σ H (V.int x)) (ho : Ev ta σ H (.ref A.ring)) (hi : Ev tb σ H (.int j)) (hj : j < s.n)
    (k : ∀ H1, HallAt K Z H1 A { s with cnt := up s.cnt j x } → Kp A H H1 → D.nx σ H1) : tAsg te (gSub (tFld K ta "counts") tb rSetL) D σ H :=
  s_setV V.int (n := s.n) (f := s.cnt) h.cnt hv (ev_Ring_counts T h ho) hi hj fun H1 e => k _ ((h.mono e).set_cnt _) (kp_st e h.ok.r_cnt (by decide))
theorem s_Ring_colours (T : TxtK K) (h : HallAt K Z H A s) {x : Bool} (hv : Ev te σ H (colS x)) (ho : Ev ta σ H (.ref A.ring)) (hi : Ev tb σ H (.int j)) (hj : j < s.n)
    (k : ∀ H1, HallAt K Z H1 A { s with blk := up s.blk j x } → Kp A H H1 → D.nx σ H1) : tAsg te (gSub (tFld K ta "colours") tb rSetL) D σ H :=
  s_setV colS (n := s.n) (f := s.blk) h.col hv (ev_Ring_colours T h ho) hi hj fun H1 e => k _ ((h.mono e).set_col _) (kp_st e h.ok.r_col (by decide))
theorem s_Tree_due (T : TxtK K) (h : HallAt K Z H A s) {x : Int} (hv : Ev te σ H (V.int x)) (ho : Ev ta σ H (.ref A.tree)) (hi : Ev tb σ H (.int j)) (hj : j < s.n)
    (k : ∀ H1, HallAt K Z H1 A { s with due := up s.due j x } → Kp A H H1 → D.nx σ H1) : tAsg te (gSub (tFld K ta "due") tb rSetL) D σ H :=
  s_setV V.int (n := s.n) (f := s.due) h.due hv (ev_Tree_due T h ho) hi hj fun H1 e => k _ ((h.mono e).set_due _) (kp_st e h.ok.r_due (by decide))
theorem s_Tree_over (T : TxtK K) (h : HallAt K Z H A s) {x : Option Nat} (hv : Ev te σ H (ovV x)) (ho : Ev ta σ H (.ref A.tree)) (hi : Ev tb σ H (.int j)) (hj : j < s.n)
    (k : ∀ H1, HallAt K Z H1 A { s with over := up s.over j x } → Kp A H H1 → D.nx σ H1) : tAsg te (gSub (tFld K ta "over") tb rSetL) D σ H :=
  s_setV ovV (n := s.n) (f := s.over) h.over hv (ev_Tree_over T h ho) hi hj fun H1 e => k _ ((h.mono e).set_over _) (kp_st e h.ok.r_over (by decide))
theorem s_Hall_busy (T : TxtK K) (h : HallAt K Z H A s) {x : Bool} (hv : Ev te σ H (V.bl x)) (ho : Ev ta σ H (.ref A.p)) (hi : Ev tb σ H (.int j)) (hj : j < s.n)
    (k : ∀ H1, HallAt K Z H1 A { s with busy := up s.busy j x } → Kp A H H1 → D.nx σ H1) : tAsg te (gSub (tFld K ta "busy") tb rSetL) D σ H :=
  s_setV V.bl (n := s.n) (f := s.busy) h.busy hv (ev_Hall_busy T h ho) hi hj fun H1 e => k _ ((h.mono e).set_busy _) (kp_st e h.ok.r_busy (by decide))
theorem pf_Ring_place {n : Nat} {c k : Addr} {pl : Nat} {sm : Int} {tb bg fd : Bool} {x : Nat} : putF "place" (.int x) (ringF n c k pl sm tb bg fd) = ringF n c k x sm tb bg fd := by kernel_rfl
theorem s_Ring_place (T : TxtK K) (h : HallAt K Z H A s) {x : Nat} (hv : Ev tv σ H (.int x)) (ho : Ev ta σ H (.ref A.ring)) (k : ∀ H1, HallAt K Z H1 A { s with place := x } → Kp A H H1 → D.nx σ H1) : sFld K ta tv "place" D σ H :=
  s_fld hv ho h.ring T.clRing (T.aRing _ (by decide +kernel)) (by show 8 < 1000; decide) fun H1 e => by
    rw [pf_Ring_place]
    exact k _ ((h.mono e).set_ring x s.sum s.tb s.begun s.found) (kp_st e h.ok.r_ring (by decide))
theorem pf_Ring_sum {n : Nat} {c k : Addr} {pl : Nat} {sm : Int} {tb bg fd : Bool} {x : Int} : putF "sum" (.int x) (ringF n c k pl sm tb bg fd) = ringF n c k pl x tb bg fd := by kernel_rfl
theorem s_Ring_sum (T : TxtK K) (h : HallAt K Z H A s) {x : Int} (hv : Ev tv σ H (.int x)) (ho : Ev ta σ H (.ref A.ring)) (k : ∀ H1, HallAt K Z H1 A { s with sum := x } → Kp A H H1 → D.nx σ H1) : sFld K ta tv "sum" D σ H :=
  s_fld hv ho h.ring T.clRing (T.aRing _ (by decide +kernel)) (by show 8 < 1000; decide) fun H1 e => by
    rw [pf_Ring_sum]
    exact k _ ((h.mono e).set_ring s.place x s.tb s.begun s.found) (kp_st e h.ok.r_ring (by decide))
theorem pf_Ring_colour {n : Nat} {c k : Addr} {pl : Nat} {sm : Int} {tb bg fd : Bool} {x : Bool} : putF "colour" (colS x) (ringF n c k pl sm tb bg fd) = ringF n c k pl sm x bg fd := by kernel_rfl
theorem s_Ring_colour (T : TxtK K) (h : HallAt K Z H A s) {x : Bool} (hv : Ev tv σ H (colS x)) (ho : Ev ta σ H (.ref A.ring)) (k : ∀ H1, HallAt K Z H1 A { s with tb := x } → Kp A H H1 → D.nx σ H1) : sFld K ta tv "colour" D σ H :=
  s_fld hv ho h.ring T.clRing (T.aRing _ (by decide +kernel)) (by show 8 < 1000; decide) fun H1 e => by
    rw [pf_Ring_colour]
    exact k _ ((h.mono e).set_ring s.place s.sum x s.begun s.found) (kp_st e h.ok.r_ring (by decide))
theorem pf_Ring_begun {n : Nat} {c k : Addr} {pl : Nat} {sm : Int} {tb bg fd : Bool} {x : Bool} : putF "begun" (.bl x) (ringF n c k pl sm tb bg fd) = ringF n c k pl sm tb x fd := by kernel_rfl
theorem s_Ring_begun (T : TxtK K) (h : HallAt K Z H A s) {x : Bool} (hv : Ev tv σ H (.bl x)) (ho : Ev ta σ H (.ref A.ring)) (k : ∀ H1, HallAt K Z H1 A { s with begun := x } → Kp A H H1 → D.nx σ H1) : sFld K ta tv "begun" D σ H :=
  s_fld hv ho h.ring T.clRing (T.aRing _ (by decide +kernel)) (by show 8 < 1000; decide) fun H1 e => by
    rw [pf_Ring_begun]
    exact k _ ((h.mono e).set_ring s.place s.sum s.tb x s.found) (kp_st e h.ok.r_ring (by decide))
theorem pf_Ring_found {n : Nat} {c k : Addr} {pl : Nat} {sm : Int} {tb bg fd : Bool} {x : Bool} : putF "found" (.bl x) (ringF n c k pl sm tb bg fd) = ringF n c k pl sm tb bg x := by kernel_rfl
theorem s_Ring_found (T : TxtK K) (h : HallAt K Z H A s) {x : Bool} (hv : Ev tv σ H (.bl x)) (ho : Ev ta σ H (.ref A.ring)) (k : ∀ H1, HallAt K Z H1 A { s with found := x } → Kp A H H1 → D.nx σ H1) : sFld K ta tv "found" D σ H :=
  s_fld hv ho h.ring T.clRing (T.aRing _ (by decide +kernel)) (by show 8 < 1000; decide) fun H1 e => by
    rw [pf_Ring_found]
    exact k _ ((h.mono e).set_ring s.place s.sum s.tb s.begun x) (kp_st e h.ok.r_ring (by decide))
end
section
variable {K : PySem.W.Frag}
/-! ### ring -/
theorem pur_Ring_sent (T : TxtK K) : ∀ vs H Q E, sp_Ring_sent K vs H Q E → t_Ring_sent K { nx := fun _ H' => Q .non H', rt := Q } (start N_Ring_sent vs) H := by
  rintro vs H Q E ⟨A, s, Z, a, rfl, h, ha, k⟩
  show t_Ring_sent K _ [some (.ref A.ring), some (.int a)] H
  unfold t_Ring_sent
  exact s_Ring_counts T h (ev_op (ev_at (ev_Ring_counts T h (ev_var rfl)) h.cnt (ev_var rfl) ha) ev_c rv_add) (ev_var rfl) (ev_var rfl) ha fun H1 h1 k1 => k _ h1 k1
theorem pur_Ring_taken (T : TxtK K) : ∀ vs H Q E, sp_Ring_taken K vs H Q E → t_Ring_taken K { nx := fun _ H' => Q .non H', rt := Q } (start N_Ring_taken vs) H := by
  rintro vs H Q E ⟨A, s, Z, a, rfl, h, ha, k⟩
  show t_Ring_taken K _ [some (.ref A.ring), some (.int a)] H
  unfold t_Ring_taken
  refine s_Ring_counts T h (ev_op (ev_at (ev_Ring_counts T h (ev_var rfl)) h.cnt (ev_var rfl) ha) ev_c rv_sub) (ev_var rfl) (ev_var rfl) ha fun H1 h1 k1 => ?_
  exact s_Ring_colours T h1 (x := true) ev_c (ev_var rfl) (ev_var rfl) ha fun H2 h2 k2 => k _ h2 (k1.trans k2)
theorem pur_Ring_passed (T : TxtK K) : ∀ vs H Q E, sp_Ring_passed K vs H Q E → t_Ring_passed K { nx := fun _ H' => Q .non H', rt := Q } (start N_Ring_passed vs) H := by
  rintro vs H Q E ⟨A, s, Z, rfl, h, hp, k⟩
  show t_Ring_passed K _ [some (.ref A.ring), none, none] H
  unfold t_Ring_passed
  refine s_asg (ev_Ring_place T h (ev_var rfl)) fun H1 e1 => ?_
  have h1 := h.mono e1
  refine s_ifB (et_test (ev_eqI (ev_var rfl) ev_c)) (fun b H2 e2 => ?_) (fun b H2 e2 => ?_)
  · have z : s.place = 0 := by have := of_decide_eq_true b; omega
    have h2 := h1.mono e2
    have n0 : 0 < s.n := by omega
    refine s_asg (ev_andV (ev_colW (ev_Ring_colour T h2 (ev_var rfl)) ev_c) (fun _ => ev_colW (ev_at (i := 0) (ev_Ring_colours T h2 (ev_var rfl)) h2.col ev_c n0) ev_c)) fun H3 e3 => ?_
    have h3 := h2.mono e3
    have key : ∀ H4, HallAt K Z H4 A { s with found := s.clear0 || s.found } → Kp A H H4 → ∀ σ : L2.St, σ[0]? = some (some (.ref A.ring)) → σ[1]? = some (some (.int s.place)) →
        tSeq (sFld K (tVar 0) (tC (.bl true)) "begun") (tSeq (sFld K (tVar 0) (tC (.int 0)) "sum") (tSeq (sFld K (tVar 0) (tC (.str "white")) "colour") (sFld K (tVar 0) (tOp rSubI (tFld K (tVar 0) "many") (tC (.int 1))) "place")))
          { nx := (tAsg (tC (.str "white")) (gSub (tFld K (tVar 0) "colours") (tVar 1) rSetL)) { nx := fun _ H' => Q .non H', rt := Q }, rt := Q } σ H4 := by
      intro H4 h4 k4 σ s0 s1
      refine s_Ring_begun T h4 (x := true) ev_c (ev_var s0) fun H5 h5 k5 => ?_
      refine s_Ring_sum T h5 (x := 0) ev_c (ev_var s0) fun H6 h6 k6 => ?_
      refine s_Ring_colour T h6 (x := false) ev_c (ev_var s0) fun H7 h7 k7 => ?_
      refine s_Ring_place T h7 (x := s.n - 1) (ev_is (ev_op (ev_Ring_many T h7 (ev_var s0)) ev_c rv_sub) (by show V.int ((s.n : Int) - 1) = _; congr 1; omega)) (ev_var s0) fun H8 h8 k8 => ?_
      refine s_Ring_colours T h8 (x := false) ev_c (ev_var s0) (ev_var s1) hp fun H9 h9 k9 => ?_
      refine k _ ?_ (k4.trans (k5.trans (k6.trans (k7.trans (k8.trans k9)))))
      have e : s.passed = { s with found := s.clear0 || s.found, begun := true, sum := 0, tb := false, place := s.n - 1, blk := up s.blk 0 false } := by unfold S.passed; rw [if_pos z]
      rw [e]
      rw [z] at h9
      exact h9
    refine s_ifB (et_and (et_B (ev_Ring_begun T h3 (ev_var rfl))) (fun _ => et_and (et_B (ev_var rfl)) (fun _ => et_test (ev_eqI (ev_op (ev_Ring_sum T h3 (ev_var rfl)) (ev_at (i := 0) (ev_Ring_counts T h3 (ev_var rfl)) h3.cnt ev_c n0) rv_add) ev_c)))) (fun b H4 e4 => ?_) (fun b H4 e4 => ?_)
    · refine s_Ring_found T (h3.mono e4) (x := true) ev_c (ev_var rfl) fun H5 h5 k5 => ?_
      refine key H5 ?_ ((Kp.ex (e1.trans (e2.trans (e3.trans e4)))).trans k5) _ rfl rfl
      have c : s.clear0 = true := b
      rw [c]
      exact h5
    · have c : s.clear0 = false := b
      refine key H4 ?_ (Kp.ex (e1.trans (e2.trans (e3.trans e4)))) _ rfl rfl
      rw [c]
      exact h3.mono e4
  · have z : ¬ s.place = 0 := by have := of_decide_eq_false b; omega
    have h2 := h1.mono e2
    refine s_Ring_sum T h2 (x := s.sum + s.cnt s.place) (ev_op (ev_Ring_sum T h2 (ev_var rfl)) (ev_at (ev_Ring_counts T h2 (ev_var rfl)) h2.cnt (ev_var rfl) hp) rv_add) (ev_var rfl) fun H3 h3 k3 => ?_
    have key : ∀ H4, HallAt K Z H4 A { s with sum := s.sum + s.cnt s.place, tb := s.blk s.place || s.tb } → Kp A H H4 → ∀ σ : L2.St, σ[0]? = some (some (.ref A.ring)) → σ[1]? = some (some (.int s.place)) →
        sFld K (tVar 0) (tOp rSubI (tVar 1) (tC (.int 1))) "place" { nx := (tAsg (tC (.str "white")) (gSub (tFld K (tVar 0) "colours") (tVar 1) rSetL)) { nx := fun _ H' => Q .non H', rt := Q }, rt := Q } σ H4 := by
      intro H4 h4 k4 σ s0 s1
      refine s_Ring_place T h4 (x := s.place - 1) (ev_is (ev_op (ev_var s1) ev_c rv_sub) (by congr 1; omega)) (ev_var s0) fun H8 h8 k8 => ?_
      refine s_Ring_colours T h8 (x := false) ev_c (ev_var s0) (ev_var s1) hp fun H9 h9 k9 => ?_
      refine k _ ?_ (k4.trans (k8.trans k9))
      have e : s.passed = { s with sum := s.sum + s.cnt s.place, tb := s.blk s.place || s.tb, place := s.place - 1, blk := up s.blk s.place false } := by unfold S.passed; rw [if_neg z]
      rw [e]
      exact h9
    refine s_ifB (et_test (ev_colB (ev_at (ev_Ring_colours T h3 (ev_var rfl)) h3.col (ev_var rfl) hp) ev_c)) (fun b H4 e4 => ?_) (fun b H4 e4 => ?_)
    · refine s_Ring_colour T (h3.mono e4) (x := true) ev_c (ev_var rfl) fun H5 h5 k5 => ?_
      refine key H5 ?_ ((Kp.ex (e1.trans e2)).trans (k3.trans ((Kp.ex e4).trans k5))) _ rfl rfl
      have c : s.blk s.place = true := b
      rw [c]
      exact h5
    · refine key H4 ?_ ((Kp.ex (e1.trans e2)).trans (k3.trans (Kp.ex e4))) _ rfl rfl
      have c : s.blk s.place = false := b
      rw [c]
      exact h3.mono e4
/-! ### tree -/
theorem pur_Tree_is_in (T : TxtK K) : ∀ vs H Q E, sp_Tree_is_in K vs H Q E → t_Tree_is_in K { nx := fun _ H' => Q .non H', rt := Q } (start N_Tree_is_in vs) H := by
  rintro vs H Q E ⟨A, s, Z, a, rfl, h, ha, k⟩
  show t_Tree_is_in K _ [some (.ref A.tree), some (.int a)] H
  unfold t_Tree_is_in
  refine s_ret (ev_is (ev_orV (ev_eqI (ev_var rfl) ev_c) (fun _ => ev_is (ev_notN (ev_at (ev_Tree_over T h (ev_var rfl)) h.over (ev_var rfl) ha)) (congrArg V.bl ovV_non))) ?_) k
  show V.bl (decide ((a : Int) = 0) || (s.over a).isSome) = V.bl (decide (a = 0) || (s.over a).isSome)
  have : decide ((a : Int) = 0) = decide (a = 0) := by simp
  rw [this]
theorem pur_Tree_slip (T : TxtK K) : ∀ vs H Q E, sp_Tree_slip K vs H Q E → t_Tree_slip K { nx := fun _ H' => Q .non H', rt := Q } (start N_Tree_slip vs) H := by
  rintro vs H Q E ⟨A, s, Z, a, b, rfl, h, ⟨ha, hb, hn⟩, k⟩
  show t_Tree_slip K _ [some (.ref A.tree), some (.int a), some (.int b)] H
  unfold t_Tree_slip
  obtain ⟨kvs, h1, h2, h3⟩ := id h.slips
  refine s_dput (v := .int (s.slips a b + 1)) (ev_op (ev_is (ev_dget2 (ev_Tree_slips T h (ev_var rfl)) (eu_pair (ev_var rfl) (ev_var rfl)) ev_c h1) (h3 a b ha hb)) ev_c rv_add) (ev_Tree_slips T h (ev_var rfl)) (eu_pair (ev_var rfl) (ev_var rfl)) h1 (h2.len hn) fun H1 e => ?_
  refine k _ ((h.mono e).set_slips (up2 s.slips a b (s.slips a b + 1)) (h2.put ha hb) fun i j hi hj => ?_) (kp_st e h.ok.r_slips (by decide))
  rw [valV_put]
  by_cases q : i = a ∧ j = b
  · obtain ⟨rfl, rfl⟩ := q
    rw [if_pos rfl, up2_same]
    rfl
  · rw [if_neg (fun z => q (key_inj.mp z)), up2_ne q]
    exact h3 i j hi hj
theorem pur_Tree_sent (T : TxtK K) : ∀ vs H Q E, sp_Tree_sent K vs H Q E → t_Tree_sent K { nx := fun _ H' => Q .non H', rt := Q } (start N_Tree_sent vs) H := by
  rintro vs H Q E ⟨A, s, Z, a, rfl, h, ha, k⟩
  show t_Tree_sent K _ [some (.ref A.tree), some (.int a)] H
  unfold t_Tree_sent
  exact s_Tree_due T h (ev_op (ev_at (ev_Tree_due T h (ev_var rfl)) h.due (ev_var rfl) ha) ev_c rv_add) (ev_var rfl) (ev_var rfl) ha fun H1 h1 k1 => k _ h1 k1
theorem pur_Tree_taken (T : TxtK K) : ∀ vs H Q E, sp_Tree_taken K vs H Q E → t_Tree_taken K { nx := fun _ H' => Q .non H', rt := Q } (start N_Tree_taken vs) H := by
  rintro vs H Q E ⟨A, s, Z, a, b, rfl, h, ⟨ha, hb, hn⟩, k⟩
  show t_Tree_taken K _ [some (.ref A.tree), some (.int a), some (.int b)] H
  unfold t_Tree_taken
  refine s_ifB (et_B (ev_meth (ev_var rfl) h.tree (by kernel_rfl) (ea_cons (ev_var rfl) ea_nil) (spv_ask1 (rcv := (·.tree)) h hb))) (fun c H1 e1 => ?_) (fun c H1 e1 => ?_)
  · have h1 := h.mono e1
    refine s_meth (ev_var rfl) h1.tree (by kernel_rfl) (ea_cons (ev_var rfl) (ea_cons (ev_var rfl) ea_nil)) fun H2 e2 => ?_
    refine ⟨A, s, Z, a, b, rfl, h1.mono e2, ⟨ha, hb, hn⟩, fun H3 h3 k3 => k _ ?_ ((Kp.ex (e1.trans e2)).trans k3)⟩
    have e : s.treeTaken a b = s.slip a b := by unfold S.treeTaken; rw [if_pos c]
    rw [e]
    exact h3
  · have h1 := h.mono e1
    refine s_Tree_over T h1 (x := some a) (ev_var rfl) (ev_var rfl) (ev_var rfl) hb fun H2 h2 k2 => k _ ?_ ((Kp.ex e1).trans k2)
    have e : s.treeTaken a b = { s with over := up s.over b (some a) } := by unfold S.treeTaken; rw [if_neg (by rw [c]; decide)]
    rw [e]
    exact h2
theorem pur_Tree_settle (T : TxtK K) : ∀ vs H Q E, sp_Tree_settle K vs H Q E → t_Tree_settle K { nx := fun _ H' => Q .non H', rt := Q } (start N_Tree_settle vs) H := by
  rintro vs H Q E ⟨A, s, Z, a, w, rfl, h, ⟨ha, hn, ho⟩, k⟩
  show t_Tree_settle K _ [some (.ref A.tree), some (.int a), some (.bl w)] H
  unfold t_Tree_settle
  refine s_ifB (et_and (et_test (ev_op (ev_var rfl) ev_c rv_gt)) (fun _ => et_and (et_B (ev_meth (ev_var rfl) h.tree (by kernel_rfl) (ea_cons (ev_var rfl) ea_nil) (spv_ask1 (rcv := (·.tree)) h ha)))
    (fun _ => et_and (et_not (et_B (ev_var rfl))) (fun _ => et_test (ev_eqI (ev_at (ev_Tree_due T h (ev_var rfl)) h.due (ev_var rfl) ha) ev_c))))) (fun c H1 e1 => ?_) (fun c H1 e1 => ?_)
  · have h1 := h.mono e1
    simp only [Bool.and_eq_true, decide_eq_true_eq] at c
    obtain ⟨c1, c2, c3, c4⟩ := c
    have a0 : 0 < a := by omega
    have hov : ∃ o, s.over a = some o := by
      unfold S.isIn at c2
      rw [decide_eq_false (by omega), Bool.false_or] at c2
      exact Option.isSome_iff_exists.mp c2
    obtain ⟨o, hov⟩ := hov
    have lv : s.leaves a w = true := by
      unfold S.leaves
      rw [hov, c3, c4, decide_eq_true a0]
      rfl
    refine s_meth (ev_var rfl) h1.tree (by kernel_rfl) (ea_cons (ev_at (ev_Tree_over T h1 (ev_var rfl)) h1.over (ev_var rfl) ha) (ea_cons (ev_var rfl) ea_nil)) fun H2 e2 => ?_
    refine ⟨A, s, Z, o, a, by rw [hov]; rfl, h1.mono e2, ⟨ho o hov, ha, hn⟩, fun H3 h3 k3 => ?_⟩
    refine s_Tree_over T h3 (x := none) ev_c (ev_var rfl) (ev_var rfl) ha fun H4 h4 k4 => k _ ?_ ((Kp.ex (e1.trans e2)).trans (k3.trans k4))
    have e : s.settle a w = { s with slips := up2 s.slips o a (s.slips o a + 1), over := up s.over a none } := by
      unfold S.settle
      rw [if_pos lv, hov]
      rfl
    rw [e]
    exact h4
  · refine k _ ?_ (Kp.ex e1)
    have lv : s.leaves a w = false := by
      unfold S.leaves
      cases a with
      | zero => rfl
      | succ n =>
        have q1 : decide ((0 : Int) < ((n + 1 : Nat) : Int)) = true := decide_eq_true (by omega)
        have q2 : s.isIn (n + 1) = (s.over (n + 1)).isSome := by
          unfold S.isIn
          rw [decide_eq_false (by omega), Bool.false_or]
        rw [q1, q2] at c
        rw [decide_eq_true (show 0 < n + 1 by omega)]
        exact c
    have e : s.settle a w = s := by
      unfold S.settle
      rw [if_neg (by rw [lv]; decide)]
    rw [e]
    exact h.mono e1
theorem pur_Tree_came_back (T : TxtK K) : ∀ vs H Q E, sp_Tree_came_back K vs H Q E → t_Tree_came_back K { nx := fun _ H' => Q .non H', rt := Q } (start N_Tree_came_back vs) H := by
  rintro vs H Q E ⟨A, s, Z, a, b, rfl, h, ⟨ha, hb, hn, hs⟩, k⟩
  show t_Tree_came_back K _ [some (.ref A.tree), some (.int a), some (.int b)] H
  unfold t_Tree_came_back
  obtain ⟨kvs, h1, h2, h3⟩ := id h.slips
  have hv : valV kvs (key a b) = some (.int (s.slips a b)) := by
    have q := h3 a b ha hb
    cases e : valV kvs (key a b) with
    | none =>
      rw [e] at q
      have q : V.int 0 = V.int (s.slips a b) := q
      injection q with q
      omega
    | some v =>
      rw [e] at q
      exact congrArg some q
  refine s_dput (v := .int (s.slips a b - 1)) (ev_op (ev_dget (ev_Tree_slips T h (ev_var rfl)) (eu_pair (ev_var rfl) (ev_var rfl)) h1 hv) ev_c rv_sub) (ev_Tree_slips T h (ev_var rfl)) (eu_pair (ev_var rfl) (ev_var rfl)) h1 (h2.len hn) fun H1 e => ?_
  have g := (h.mono e).set_slips (up2 s.slips a b (s.slips a b - 1)) (h2.put (v := .int (s.slips a b - 1)) ha hb) fun i j hi hj => by
    rw [valV_put]
    by_cases q : i = a ∧ j = b
    · obtain ⟨rfl, rfl⟩ := q
      rw [if_pos rfl, up2_same]
      rfl
    · rw [if_neg (fun z => q (key_inj.mp z)), up2_ne q]
      exact h3 i j hi hj
  refine s_Tree_due T g (ev_op (ev_at (ev_Tree_due T g (ev_var rfl)) g.due (ev_var rfl) ha) ev_c rv_sub) (ev_var rfl) (ev_var rfl) ha fun H2 h2' k2 => k _ h2' ((kp_st e h.ok.r_slips (by decide)).trans k2)
end
end QH

/-! What the program's defs do: weights, the makers. -/
namespace QH
open PySem PySem.Spec PyProof.Rows L2 Evl
section
variable {K : PySem.W.Frag} {σ : L2.St} {H H' : Hp} {ta tb te tv : TE} {t u : TT} {x y z v : V} {a C dx p c : Addr} {fs fs' : List (Str × V)} {f m : Str} {D : Ends} {P P' : V → Hp → Prop}
theorem s_fldN (hv : Ev tv σ H y) (ha : Ev ta σ H (.ref a)) (ho : H a = some (.ins C dx fs)) (hc : Cls K C) (hn : NoAttr K C f) (hl : fs.length < 1000) (hf : putF f y fs = fs') (k : ∀ H1, Ex H H1 → D.nx σ (upd H1 a (.ins C dx fs'))) : sFld K ta tv f D σ H :=
  s_fld hv ha ho hc hn hl fun H1 e => by rw [hf]; exact k H1 e
theorem s_fldR (hv : EvR tv σ H P) (ha : ∀ H1, Ex H H1 → Ev ta σ H1 (.ref a)) (ho : H a = some (.ins C dx fs)) (hc : Cls K C) (hn : NoAttr K C f) (hl : fs.length < 1000) (k : ∀ v H1 H2, Ex H H1 → Ex H1 H2 → P v H1 → D.nx σ (upd H2 a (.ins C dx (putF f v fs)))) : sFld K ta tv f D σ H :=
  hv H (Ex.refl H) _ fun v H1 e1 pv => ha H1 e1 H1 (Ex.refl H1) _ fun H2 e2 => ⟨a, C, dx, fs, rfl, (e1.trans e2) _ _ ho, hc, hn, hl, k v H1 H2 e1 e2 pv⟩
theorem et_yes : EvT tYes σ H true := fun H1 _ _ q => q H1 (Ex.refl H1)
theorem given_all {n : Nat} {g : Nat → V} : given n (fun _ => true) g = vec n g := by
  unfold given vec
  rw [List.filter_eq_self.mpr (fun _ _ => rfl)]
theorem evr_list {xs : List V} (h : EvL te σ H xs) : EvR te σ H (fun w H2 => ∃ q, w = .ref q ∧ H q = none ∧ H2 q = some (.lst xs)) := fun H1 e Q q => h H1 e Q fun p H2 n e2 hp => q _ H2 e2 ⟨p, rfl, fresh_back e n, hp⟩
/-- [e for k in range(n)] -/
theorem el_comp {n j : Nat} {g : Nat → V} (h : Ev ta σ H (.int n)) (hn : n ≤ 6) (hw : ∀ x, wipe ((wipe σ [j]).set j (some x)) [j] = wipe σ [j]) (he : ∀ (i : Nat) H1, Ex H H1 → i < n → Ev te ((wipe σ [j]).set j (some (.int i))) H1 (g i)) :
    EvL (tLc (iRng1 (tCons ta tNil)) (gName j) tYes te [j]) σ H (vec n g) := by
  have q := el_lcR1 (t := tYes) (te := te) (j := j) (vs := [j]) (fun _ => true) g (ea_cons h ea_nil) ⟨by omega, by omega⟩ hw (fun _ _ _ _ => et_yes) (fun i H1 e hi _ => he i H1 e (by omega))
  rw [given_all] at q
  exact q
/-- .. whose items are told of -/
theorem evr_comp {n j : Nat} {R : Nat → V → Hp → Prop} (h : Ev ta σ H (.int n)) (hn : n ≤ 6) (hw : ∀ x, wipe ((wipe σ [j]).set j (some x)) [j] = wipe σ [j]) (hR : ∀ i v H1 H2, Ex H1 H2 → R i v H1 → R i v H2)
    (hD : ∀ i v H1 D l o, H1 D = some (.lst l) → R i v H1 → R i v (upd H1 D o))
    (he : ∀ (i : Nat) H1, Ex H H1 → i < n → EvR te ((wipe σ [j]).set j (some (.int i))) H1 (R i)) :
    EvR (tLc (iRng1 (tCons ta tNil)) (gName j) tYes te [j]) σ H (fun w H2 => ∃ q, ∃ g : Nat → V, w = .ref q ∧ H q = none ∧ H2 q = some (.lst (vec n g)) ∧ ∀ i, i < n → R i (g i) H2) := fun H0 e0 Q q =>
  h H0 e0 _ fun H1 e1 => ⟨n, rfl, by omega, by omega, fun D hD0 => by
    have hDH : H D = none := fresh_back (e0.trans e1) hD0
    have en : ((n : Int)).toNat = n := by omega
    rw [en]
    refine lc_range (lo := 0) (n := n) (fun i H' => ∃ g : Nat → V, Ex H1 H' ∧ H' D = some (.lst (vec i g)) ∧ ∀ k, k < i → R k (g k) H') ⟨fun _ => .non, Ex.new hD0, upd_same, fun k hk => absurd hk (Nat.not_lt_zero _)⟩ ?_ ?_
    · rintro i H' hi ⟨g, ex, hg, hr⟩
      have e00 : (0 : Int) + (i : Int) = (i : Int) := Int.zero_add _
      show wipe ((wipe σ [j]).set j (some (.int ((0 : Int) + (i : Int))))) [j] = wipe σ [j] ∧ te ((wipe σ [j]).set j (some (.int ((0 : Int) + (i : Int))))) H' fun y H4 => _
      rw [e00]
      refine ⟨hw _, he i H1 (e0.trans e1) hi H' ex _ fun y H4 e4 py => ⟨vec i g, e4 _ _ hg, sz_lt (by rw [vec_len]; omega), up g i y, (ex.trans e4).mut hD0, ?_, fun k hk => ?_⟩⟩
      · rw [upd_same, vec_succ, up_same]
        exact congrArg (fun l => some (HO.lst (l ++ [y]))) (vec_ext fun k hk => (up_ne (by omega)).symm)
      · by_cases ek : k = i
        · subst ek
          rw [up_same]
          exact hD k y H4 D _ _ (e4 _ _ hg) py
        · rw [up_ne ek]
          exact hD k (g k) H4 D _ _ (e4 _ _ hg) (hR k (g k) H' H4 e4 (hr k (by omega)))
    · rintro H' ⟨g, ex, hg, hr⟩
      exact q _ H' (e1.trans ex) ⟨D, g, rfl, hDH, hg, hr⟩⟩
/-- [[] for k in range(n)] -/
theorem evr_compL {n j : Nat} (h : Ev ta σ H (.int n)) (hn : n ≤ 6) (hw : ∀ x, wipe ((wipe σ [j]).set j (some x)) [j] = wipe σ [j]) :
    EvR (tLc (iRng1 (tCons ta tNil)) (gName j) tYes (tLst tNil) [j]) σ H (fun w H2 => ∃ q, ∃ f : Nat → Addr, w = .ref q ∧ H q = none ∧ H2 q = some (.lst (vec n fun i => .ref (f i))) ∧
      ∀ i, i < n → H (f i) = none ∧ f i ≠ q ∧ H2 (f i) = some (.lst []) ∧ ∀ k, k < n → f i = f k → i = k) := fun H0 e0 Q q =>
  h H0 e0 _ fun H1 e1 => ⟨n, rfl, by omega, by omega, fun D hD0 => by
    have hDH : H D = none := fresh_back (e0.trans e1) hD0
    have en : ((n : Int)).toNat = n := by omega
    rw [en]
    refine lc_range (lo := 0) (n := n) (fun i H' => ∃ f : Nat → Addr, Ex H1 H' ∧ H' D = some (.lst (vec i fun k => .ref (f k))) ∧ ∀ k, k < i → H (f k) = none ∧ f k ≠ D ∧ H' (f k) = some (.lst []) ∧ ∀ l, l < i → f k = f l → k = l)
      ⟨fun _ => D, Ex.new hD0, upd_same, fun k hk => absurd hk (Nat.not_lt_zero _)⟩ ?_ ?_
    · rintro i H' hi ⟨f, ex, hg, hr⟩
      refine ⟨hw _, Nat.zero_le _, fun p hp => ⟨vec i fun k => .ref (f k), ?_, sz_lt (by rw [vec_len]; omega), up f i p, ((ex.trans (Ex.new hp)).mut hD0), ?_, fun k hk => ?_⟩⟩
      · rw [upd_ne (ne_of_none hg hp)]
        exact hg
      · rw [upd_same, vec_succ, up_same]
        exact congrArg (fun l => some (HO.lst (l ++ [V.ref p]))) (vec_ext fun k hk => by rw [up_ne (by omega)])
      · have pD : p ≠ D := (ne_of_none hg hp).symm
        have pf : ∀ l, l < i → f l ≠ p := fun l hl => ne_of_none (hr l hl).2.2.1 hp
        by_cases ek : k = i
        · subst ek
          rw [up_same]
          refine ⟨fresh_back (e0.trans (e1.trans ex)) hp, pD, by rw [upd_ne pD, upd_same], fun l hl el => ?_⟩
          by_cases e : l = k
          · exact e.symm
          · rw [up_ne e] at el
            exact absurd el.symm (pf l (by omega))
        · rw [up_ne ek]
          obtain ⟨h1, h2, h3, h4⟩ := hr k (by omega)
          refine ⟨h1, h2, by rw [upd_ne h2, upd_ne (pf k (by omega))]; exact h3, fun l hl el => ?_⟩
          by_cases e : l = i
          · subst e
            rw [up_same] at el
            exact absurd el (pf k (by omega))
          · rw [up_ne e] at el
            exact h4 l (by omega) el
    · rintro H' ⟨f, ex, hg, hr⟩
      exact q _ H' (e1.trans ex) ⟨D, f, rfl, hDH, hg, hr⟩⟩
theorem evr_dnew : EvR tDNewT σ H (fun w H2 => ∃ q, w = .ref q ∧ H q = none ∧ H2 q = some (.dT [])) := fun H1 e Q q p hp => q _ _ (Ex.new hp) ⟨p, rfl, fresh_back e hp, upd_same⟩
/-- all but p stands -/
def KeB (p : Addr) (H G : Hp) : Prop := ∀ a o, H a = some o → a ≠ p → G a = some o
theorem KeB.refl {p : Addr} : KeB p H H := fun _ _ h _ => h
theorem KeB.fresh {G : Hp} {o : HO} (k : KeB p H G) (hp : G p = some o) (n : G c = none) : H c = none := by
  cases e : H c with
  | none => rfl
  | some u =>
    have : c ≠ p := fun z => by rw [z, hp] at n; cases n
    rw [k c u e this] at n
    cases n
theorem KeB.put {G H1 : Hp} {o : HO} (k : KeB p H G) (e : Ex G H1) : KeB p H (upd H1 p o) := fun a u h n => by
  rw [upd_ne n]
  exact e a u (k a u h n)
end
section
variable {K : PySem.W.Frag}
theorem pur_Ring_init (T : TxtK K) : ∀ vs H Q E, sp_Ring_init K vs H Q E → t_Ring_init K { nx := fun _ H' => Q .non H', rt := Q } (start N_Ring_init vs) H := by
  rintro vs H Q E ⟨p, dx, n, rfl, hn, hp, k⟩
  show t_Ring_init K _ [some (.ref p), some (.int n), none] H
  unfold t_Ring_init
  refine s_fldN (fs' := [("many", .int n)]) (ev_var rfl) (ev_var rfl) hp T.clRing (T.aRing _ (by decide +kernel)) (by show 0 < 1000; decide) (by kernel_rfl) fun H1 e1 => ?_
  have b1 : KeB p H (upd H1 p (.ins (He.ga K "Ring") dx [("many", .int n)])) := KeB.refl.put e1
  refine s_fldR (evr_list (el_comp (g := fun _ => .int 0) (ev_var rfl) hn (fun _ => rfl) (fun _ _ _ _ => ev_c))) (fun _ _ => ev_var rfl) upd_same T.clRing (T.aRing _ (by decide +kernel)) (by show 1 < 1000; decide) ?_
  rintro _ H2 H3 e2 e3 ⟨c, rfl, c0, hc⟩
  have c0' := b1.fresh upd_same c0
  have cp : c ≠ p := (ne_of_none upd_same c0).symm
  rw [show (putF "counts" (.ref c) [(("many" : Str), V.int n)] : List (Str × V)) = ([("many", .int n), ("counts", .ref c)] : List (Str × V)) by kernel_rfl]
  have b2 : KeB p H (upd H3 p (.ins (He.ga K "Ring") dx [("many", .int n), ("counts", .ref c)])) := b1.put (e2.trans e3)
  refine s_fldR (evr_list (el_comp (g := fun _ => .str "white") (ev_var rfl) hn (fun _ => rfl) (fun _ _ _ _ => ev_c))) (fun _ _ => ev_var rfl) upd_same T.clRing (T.aRing _ (by decide +kernel)) (by show 2 < 1000; decide) ?_
  rintro _ H4 H5 e4 e5 ⟨w, rfl, w0, hw⟩
  have w0' := b2.fresh upd_same w0
  have wp : w ≠ p := (ne_of_none upd_same w0).symm
  have hc3 : upd H3 p (.ins (He.ga K "Ring") dx [("many", .int n), ("counts", .ref c)]) c = some (.lst (vec n fun _ => .int 0)) := by
    rw [upd_ne cp]
    exact e3 _ _ hc
  have cw : c ≠ w := ne_of_none hc3 w0
  have hc5 := (e4.trans e5) _ _ hc3
  have hw5 := e5 _ _ hw
  rw [show (putF "colours" (.ref w) [(("many" : Str), V.int n), ("counts", .ref c)] : List (Str × V)) = ([("many", .int n), ("counts", .ref c), ("colours", .ref w)] : List (Str × V)) by kernel_rfl]
  have b3 := b2.put (o := .ins (He.ga K "Ring") dx [("many", .int n), ("counts", .ref c), ("colours", .ref w)]) (e4.trans e5)
  refine s_fldN (fs' := [("many", .int n), ("counts", .ref c), ("colours", .ref w), ("place", .int 0)]) ev_c (ev_var rfl) upd_same T.clRing (T.aRing _ (by decide +kernel)) (by show 3 < 1000; decide) (by kernel_rfl) fun H6 e6 => ?_
  refine s_fldN (fs' := [("many", .int n), ("counts", .ref c), ("colours", .ref w), ("place", .int 0), ("sum", .int 0)]) ev_c (ev_var rfl) upd_same T.clRing (T.aRing _ (by decide +kernel)) (by show 4 < 1000; decide) (by kernel_rfl) fun H7 e7 => ?_
  refine s_fldN (fs' := [("many", .int n), ("counts", .ref c), ("colours", .ref w), ("place", .int 0), ("sum", .int 0), ("colour", .str "white")]) ev_c (ev_var rfl) upd_same T.clRing (T.aRing _ (by decide +kernel)) (by show 5 < 1000; decide) (by kernel_rfl) fun H8 e8 => ?_
  refine s_fldN (fs' := [("many", .int n), ("counts", .ref c), ("colours", .ref w), ("place", .int 0), ("sum", .int 0), ("colour", .str "white"), ("begun", .bl false)]) ev_c (ev_var rfl) upd_same T.clRing (T.aRing _ (by decide +kernel)) (by show 6 < 1000; decide) (by kernel_rfl) fun H9 e9 => ?_
  refine s_fldN (fs' := ringF n c w 0 0 false false false) ev_c (ev_var rfl) upd_same T.clRing (T.aRing _ (by decide +kernel)) (by show 7 < 1000; decide) (by kernel_rfl) fun H10 e10 => ?_
  have b4 := ((((b3.put e6).put e7).put e8).put e9).put (o := .ins (He.ga K "Ring") dx (ringF n c w 0 0 false false false)) e10
  have up1 : ∀ {q : Addr} {o : HO} {G G1 : Hp} {u : HO}, q ≠ p → G q = some o → Ex (upd G p u) G1 → G1 q = some o := fun nq hq ex => ex _ _ (by rw [upd_ne nq]; exact hq)
  refine k _ c w c0' w0' cw upd_same ?_ ?_ b4
  · rw [upd_ne cp]
    exact up1 cp (up1 cp (up1 cp (up1 cp (up1 cp hc5 e6) e7) e8) e9) e10
  · rw [upd_ne wp]
    exact up1 wp (up1 wp (up1 wp (up1 wp (up1 wp hw5 e6) e7) e8) e9) e10
theorem pur_Tree_init (T : TxtK K) : ∀ vs H Q E, sp_Tree_init K vs H Q E → t_Tree_init K { nx := fun _ H' => Q .non H', rt := Q } (start N_Tree_init vs) H := by
  rintro vs H Q E ⟨p, dx, n, rfl, hn, hp, k⟩
  show t_Tree_init K _ [some (.ref p), some (.int n), none] H
  unfold t_Tree_init
  refine s_fldR (evr_list (el_comp (g := fun _ => .int 0) (ev_var rfl) hn (fun _ => rfl) (fun _ _ _ _ => ev_c))) (fun _ _ => ev_var rfl) hp T.clTree (T.aTree _ (by decide +kernel)) (by show 0 < 1000; decide) ?_
  rintro _ H2 H3 e2 e3 ⟨c, rfl, c0, hc⟩
  have cp : c ≠ p := (ne_of_none hp c0).symm
  rw [show (putF "due" (.ref c) [] : List (Str × V)) = ([("due", .ref c)] : List (Str × V)) by kernel_rfl]
  have b1 : KeB p H (upd H3 p (.ins (He.ga K "Tree") dx [("due", .ref c)])) := KeB.refl.put (e2.trans e3)
  have c1 : upd H3 p (.ins (He.ga K "Tree") dx [("due", .ref c)]) c = some (.lst (vec n fun _ => .int 0)) := by
    rw [upd_ne cp]
    exact e3 _ _ hc
  refine s_fldR (evr_list (el_comp (g := fun _ => .non) (ev_var rfl) hn (fun _ => rfl) (fun _ _ _ _ => ev_c))) (fun _ _ => ev_var rfl) upd_same T.clTree (T.aTree _ (by decide +kernel)) (by show 1 < 1000; decide) ?_
  rintro _ H4 H5 e4 e5 ⟨o, rfl, o0, ho⟩
  have op : o ≠ p := (ne_of_none upd_same o0).symm
  have co : c ≠ o := ne_of_none c1 o0
  rw [show (putF "over" (.ref o) [(("due" : Str), V.ref c)] : List (Str × V)) = ([("due", .ref c), ("over", .ref o)] : List (Str × V)) by kernel_rfl]
  have b2 := b1.put (o := .ins (He.ga K "Tree") dx [("due", .ref c), ("over", .ref o)]) (e4.trans e5)
  have c2 : upd H5 p (.ins (He.ga K "Tree") dx [("due", .ref c), ("over", .ref o)]) c = some (.lst (vec n fun _ => .int 0)) := by
    rw [upd_ne cp]
    exact (e4.trans e5) _ _ c1
  have o2 : upd H5 p (.ins (He.ga K "Tree") dx [("due", .ref c), ("over", .ref o)]) o = some (.lst (vec n fun _ => .non)) := by
    rw [upd_ne op]
    exact e5 _ _ ho
  refine s_fldR evr_dnew (fun _ _ => ev_var rfl) upd_same T.clTree (T.aTree _ (by decide +kernel)) (by show 2 < 1000; decide) ?_
  rintro _ H6 H7 e6 e7 ⟨s, rfl, s0, hs⟩
  have sp : s ≠ p := (ne_of_none upd_same s0).symm
  rw [show (putF "slips" (.ref s) [(("due" : Str), V.ref c), ("over", .ref o)] : List (Str × V)) = treeF c o s by kernel_rfl]
  have b3 := b2.put (o := .ins (He.ga K "Tree") dx (treeF c o s)) (e6.trans e7)
  refine k _ c o s c0 (b1.fresh upd_same o0) (b2.fresh upd_same s0) co (ne_of_none c2 s0) (ne_of_none o2 s0) upd_same ?_ ?_ ?_ b3
  · rw [upd_ne cp]
    exact (e6.trans e7) _ _ c2
  · rw [upd_ne op]
    exact (e6.trans e7) _ _ o2
  · rw [upd_ne sp]
    exact e7 _ _ hs
end
end QH

/-! What the program's defs do: weights. -/
namespace QH
open PySem PySem.Spec PyProof.Rows L2 Evl
theorem norm_zero (p : Nat) : norm 0 p = (0, 0) := by cases p <;> rfl
theorem norm_step {u p : Nat} (hu : u ≠ 0) (h : u % 2 = 0) : norm u (p + 1) = norm (u / 2) p := by
  show (if u = 0 then (0, 0) else if u % 2 = 0 then norm (u / 2) p else (u, p + 1)) = _
  rw [if_neg hu, if_pos h]
theorem norm_end {u p : Nat} (hu : u ≠ 0) (h : ¬ (0 < p ∧ u % 2 = 0)) : norm u p = (u, p) := by
  cases p with
  | zero =>
    show (if u = 0 then (0, 0) else (u, 0)) = _
    rw [if_neg hu]
  | succ p =>
    show (if u = 0 then (0, 0) else if u % 2 = 0 then norm (u / 2) p else (u, p + 1)) = _
    rw [if_neg hu, if_neg (fun z => h ⟨Nat.succ_pos _, z⟩)]
section
variable {K : PySem.W.Frag} {Z : Addr → Prop} {σ : L2.St} {H H' : Hp} {ta tb te tv : TE} {t u : TT} {x y z v : V} {a C dx p c : Addr} {A : Ad} {s : S} {D : Ends} {j : Nat} {w : Wt}
theorem ev_fst (h : Ev ta σ H (.ref a)) (ha : H a = some (.tup (x :: [y]))) : Ev (tOp (rIxT K) ta (tC (.int 0))) σ H x := ev_op h ev_c (rv_ixT (st_of ha) (atI_nat (j := 0) rfl))
theorem ev_snd (h : Ev ta σ H (.ref a)) (ha : H a = some (.tup (x :: [y]))) : Ev (tOp (rIxT K) ta (tC (.int 1))) σ H y := ev_op h ev_c (rv_ixT (st_of ha) (atI_nat (j := 1) rfl))
theorem rv_mod {i j : Int} (h : 0 < j) : RV rModI (.int i) (.int j) H (.int (i % j)) := rv_I h
theorem rv_div {i j : Int} (h : CDiv i j) : RV rDivI (.int i) (.int j) H (.int (i / j)) := rv_I h
theorem rv_shl {i j : Int} (h : CPow i j) : RV rShlI (.int i) (.int j) H (.int (i * 2 ^ j.toNat)) := rv_I h
theorem rv_mul {i j : Int} (h : CMul i j) : RV rMulI (.int i) (.int j) H (.int (i * j)) := rv_I h
theorem eu_00 : EvU (tTup (tCons (tC (.int 0)) (tCons (tC (.int 0)) tNil))) σ H (wT (0, 0)) := eu_tup (vs := [.int 0, .int 0]) (ea_cons ev_c (ea_cons ev_c ea_nil)) (by show 2 ≤ 100000; decide)
theorem pur_normal (T : TxtK K) : ∀ vs H Q E, sp_normal K vs H Q E → t_normal K { nx := fun _ H' => Q .non H', rt := Q } (start N_normal vs) H := by
  rintro vs H Q E ⟨u, p, rfl, k⟩
  show t_normal K _ [some (.int u), some (.int p)] H
  unfold t_normal
  refine s_ifB (et_test (ev_eqI (ev_var rfl) ev_c)) (fun b H1 e1 => ?_) (fun b H1 e1 => ?_)
  · have u0 : u = 0 := by have := of_decide_eq_true b; omega
    refine s_retU eu_00 fun q H2 n e2 hq => k H2 q (e1.trans e2) (fresh_back e1 n) ?_
    rw [u0, norm_zero]
    exact hq
  · have u0 : u ≠ 0 := by have := of_decide_eq_false b; omega
    refine s_while (fun m σ' H' => ∃ r : Nat, σ' = [some (.int r), some (.int m)] ∧ Ex H H' ∧ r ≠ 0 ∧ norm r m = norm u p) p ⟨u, rfl, e1, u0, rfl⟩ ?_
    rintro m σ' H' ⟨r, rfl, e, r0, hr⟩
    refine ⟨decide (0 < m) && decide (r % 2 = 0), ?_, fun c H2 e2 => ?_, fun c H2 e2 => ?_⟩
    · refine et_is (et_and (et_test (ev_op (ev_var rfl) ev_c rv_gt)) (fun _ => et_test (ev_eqI (ev_op (ev_var rfl) ev_c (rv_mod (by decide))) ev_c))) ?_
      congr 1
      · simp
      · have : ((r : Int) % 2 = 0) = (r % 2 = 0) := by apply propext; omega
        simp only [this]
    · simp only [Bool.and_eq_true, decide_eq_true_eq] at c
      obtain ⟨c1, c2⟩ := c
      obtain ⟨m', rfl⟩ : ∃ m', m = m' + 1 := ⟨m - 1, by omega⟩
      refine ⟨fun σ2 H2 => ∃ r : Nat, σ2 = [some (.int r), some (.int m')] ∧ Ex H H2 ∧ r ≠ 0 ∧ norm r m' = norm u p, fun σ2 H2 q => ⟨m', Nat.lt_succ_self _, q⟩, ?_⟩
      refine s_asg (ev_op (ev_var rfl) ev_c (rv_div ⟨by decide, by decide⟩)) fun H3 e3 => ?_
      refine s_asg (ev_op (ev_var rfl) ev_c rv_sub) fun H4 e4 => ⟨r / 2, ?_, e.trans (e2.trans (e3.trans e4)), by omega, by rw [← norm_step r0 c2]; exact hr⟩
      show [some (V.int ((r : Int) / 2)), some (V.int (((m' + 1 : Nat) : Int) - 1))] = _
      have q1 : (r : Int) / 2 = ((r / 2 : Nat) : Int) := by omega
      have q2 : ((m' + 1 : Nat) : Int) - 1 = (m' : Int) := by omega
      rw [q1, q2]
    · have c' : ¬ (0 < m ∧ r % 2 = 0) := fun ⟨z1, z2⟩ => by
        rw [decide_eq_true z1, decide_eq_true z2] at c
        cases c
      refine s_retU (eu_tup (ea_cons (ev_var rfl) (ea_cons (ev_var rfl) ea_nil)) (by show 2 ≤ 100000; decide)) fun q H3 n e3 hq => k H3 q (e.trans (e2.trans e3)) (fresh_back (e.trans e2) n) ?_
      rw [← hr, norm_end r0 c']
      exact hq
theorem spr_normal {u p : Nat} : SpR (sp_normal K) [.int u, .int p] H (fun v H2 => ∃ q, v = .ref q ∧ H q = none ∧ H2 q = some (.tup (wT (norm u p)))) :=
  fun H1 e Q q E => ⟨u, p, rfl, fun H' r e' n hr => q _ H' e' ⟨r, rfl, fresh_back e n, hr⟩⟩
theorem pur_half (T : TxtK K) : ∀ vs H Q E, sp_half K vs H Q E → t_half K { nx := fun _ H' => Q .non H', rt := Q } (start N_half vs) H := by
  rintro vs H Q E ⟨a, w, rfl, ha, k⟩
  show t_half K _ [some (.ref a)] H
  unfold t_half
  refine s_ifB (et_test (ev_eqI (ev_fst (ev_var rfl) ha) ev_c)) (fun b H1 e1 => ?_) (fun b H1 e1 => ?_)
  · have u0 : w.1 = 0 := by have := of_decide_eq_true b; omega
    refine s_retU eu_00 fun q H2 n e2 hq => k H2 q (e1.trans e2) (fresh_back e1 n) ?_
    unfold half
    rw [if_pos u0]
    exact hq
  · have u0 : w.1 ≠ 0 := by have := of_decide_eq_false b; omega
    have ha1 := e1 _ _ ha
    refine s_retR (evr_call (ea_cons (ev_fst (ev_var rfl) ha1) (ea_cons (ev_is (ev_op (ev_snd (ev_var rfl) ha1) ev_c rv_add) (w := .int ((w.2 + 1 : Nat) : Int)) (by congr 1)) ea_nil)) spr_normal) ?_
    rintro _ H2 e2 ⟨q, rfl, n, hq⟩
    refine k H2 q (e1.trans e2) (fresh_back e1 n) ?_
    unfold half
    rw [if_neg u0]
    exact hq
theorem shl_ok {w : Wt} {P : Nat} (h : Fit w) (hP : w.2 ≤ P) (hP2 : P ≤ 1000) : CPow (w.1 : Int) ((P : Int) - w.2) := ⟨by omega, by omega, by have := h.1; omega⟩
theorem shl_val {w : Wt} {P : Nat} (hP : w.2 ≤ P) : (w.1 : Int) * 2 ^ ((P : Int) - w.2).toNat = ((w.1 * 2 ^ (P - w.2) : Nat) : Int) := by
  have e : ((P : Int) - w.2).toNat = P - w.2 := by omega
  rw [e]
  simp
theorem pur_plus (T : TxtK K) : ∀ vs H Q E, sp_plus K vs H Q E → t_plus K { nx := fun _ H' => Q .non H', rt := Q } (start N_plus vs) H := by
  rintro vs H Q E ⟨a, b, w, z, rfl, ha, hb, fw, fz, k⟩
  show t_plus K _ [some (.ref a), some (.ref b), none] H
  unfold t_plus
  refine s_asg (ev_is (ev_max2 (ev_snd (ev_var rfl) ha) (ev_snd (ev_var rfl) hb)) (w := .int ((max w.2 z.2 : Nat) : Int)) ?_) fun H1 e1 => ?_
  · congr 1
    split <;> omega
  · have ha1 := e1 _ _ ha
    have hb1 := e1 _ _ hb
    have m1 : w.2 ≤ max w.2 z.2 := by omega
    have m2 : z.2 ≤ max w.2 z.2 := by omega
    have m3 : max w.2 z.2 ≤ 1000 := by have := fw.2; have := fz.2; omega
    refine s_retR (evr_call (ea_cons (ev_is (ev_op (ev_op (ev_fst (ev_var rfl) ha1) (ev_op (ev_var rfl) (ev_snd (ev_var rfl) ha1) rv_sub) (rv_shl (shl_ok fw m1 m3))) (ev_op (ev_fst (ev_var rfl) hb1) (ev_op (ev_var rfl) (ev_snd (ev_var rfl) hb1) rv_sub) (rv_shl (shl_ok fz m2 m3))) rv_add)
      (w := .int ((w.1 * 2 ^ (max w.2 z.2 - w.2) + z.1 * 2 ^ (max w.2 z.2 - z.2) : Nat) : Int)) ?_) (ea_cons (ev_var rfl) ea_nil)) spr_normal) ?_
    · rw [shl_val m1, shl_val m2]
      congr 1
    · rintro _ H2 e2 ⟨q, rfl, n, hq⟩
      exact k H2 q (e1.trans e2) (fresh_back e1 n) hq
theorem spr_half {a : Addr} {w : Wt} (h : H a = some (.tup (wT w))) : SpR (sp_half K) [.ref a] H (fun v H2 => ∃ q, v = .ref q ∧ H q = none ∧ H2 q = some (.tup (wT (half w)))) :=
  fun H1 e Q q E => ⟨a, w, rfl, e _ _ h, fun H' r e' n hr => q _ H' e' ⟨r, rfl, fresh_back e n, hr⟩⟩
theorem spr_plus {a b : Addr} {w z : Wt} (h : H a = some (.tup (wT w))) (h2 : H b = some (.tup (wT z))) (f1 : Fit w) (f2 : Fit z) : SpR (sp_plus K) [.ref a, .ref b] H (fun v H2 => ∃ q, v = .ref q ∧ H q = none ∧ H2 q = some (.tup (wT (plus w z)))) :=
  fun H1 e Q q E => ⟨a, b, w, z, rfl, e _ _ h, e _ _ h2, f1, f2, fun H' r e' n hr => q _ H' e' ⟨r, rfl, fresh_back e n, hr⟩⟩
/-- the scales' list, a weight stored -/
theorem s_Weights_held (T : TxtK K) (h : HallAt K Z H A s) (hv : EvR te σ H (fun v H2 => WV Z H2 v w)) (ho : ∀ H1, Ex H H1 → Ev ta σ H1 (.ref A.sc)) (hi : ∀ H1, Ex H H1 → Ev tb σ H1 (.int j)) (hj : j < s.n)
    (k : ∀ H1, HallAt K Z H1 A { s with held := up s.held j w } → Kp A H H1 → D.nx σ H1) : tAsg te (gSub (tFld K ta "held") tb rSetL) D σ H :=
  hv H (Ex.refl H) _ fun v H1 e1 pv => by
    have h1 := h.mono e1
    obtain ⟨hv, hl, hw⟩ := id h1.held
    refine (ev_Weights_held T h1 (ho H1 e1)) H1 (Ex.refl H1) _ fun H2 e2 => hi H1 e1 H2 e2 _ fun H3 e3 => ⟨A.held, _, (j : Int), j, rfl, rfl, (e2.trans e3) _ _ hl, ixN_nat (by rw [vec_len]; exact hj), ?_⟩
    rw [vec_set hj]
    have h3 := h1.mono (e2.trans e3)
    refine k _ (h3.set_held (hv := up hv j v) (up s.held j w) fun i hi => ?_) (kp_st (e1.trans (e2.trans e3)) h.ok.r_held (by decide))
    by_cases e : i = j
    · subst e
      rw [up_same, up_same]
      exact pv.keep fun a o q _ => (e2.trans e3) a o q
    · rw [up_ne e, up_ne e]
      exact (hw i hi).keep fun a o q _ => (e2.trans e3) a o q
theorem wv_new (h : HallAt K Z H A s) {q : Addr} {H2 : Hp} (n : H q = none) (hq : H2 q = some (.tup (wT w))) : WV Z H2 (.ref q) w := ⟨q, rfl, h.zf q n, hq⟩
theorem pur_Weights_split (T : TxtK K) : ∀ vs H Q E, sp_Weights_split K vs H Q E → t_Weights_split K { nx := fun _ H' => Q .non H', rt := Q } (start N_Weights_split vs) H := by
  rintro vs H Q E ⟨A, s, Z, a, rfl, h, ha, k⟩
  show t_Weights_split K _ [some (.ref A.sc), some (.int a)] H
  unfold t_Weights_split
  obtain ⟨hv, hl, hw⟩ := id h.held
  obtain ⟨q0, e0, z0, hq0⟩ := hw a ha
  refine s_Weights_held T h (w := half (s.held a)) ((evr_call (ea_cons (ev_is (ev_at (ev_Weights_held T h (ev_var rfl)) hl (ev_var rfl) ha) e0) ea_nil) (spr_half hq0)).imp ?_) (fun _ _ => ev_var rfl) (fun _ _ => ev_var rfl) ha fun H1 h1 k1 => ?_
  · rintro _ H2 e2 ⟨q, rfl, n, hq⟩
    exact wv_new h n hq
  · obtain ⟨hv1, hl1, hw1⟩ := id h1.held
    refine s_ret (ev_at (ev_Weights_held T h1 (ev_var rfl)) hl1 (ev_var rfl) ha) fun H2 e2 => k H2 _ (h1.mono e2) (k1.trans (Kp.ex e2)) ?_
    have w1 := hw1 a ha
    rw [show ({ s with held := up s.held a (half (s.held a)) } : S).held a = half (s.held a) from up_same] at w1
    exact w1.keep fun a o q _ => e2 a o q
theorem pur_Weights_add (T : TxtK K) : ∀ vs H Q E, sp_Weights_add K vs H Q E → t_Weights_add K { nx := fun _ H' => Q .non H', rt := Q } (start N_Weights_add vs) H := by
  rintro vs H Q E ⟨A, s, Z, a, b, w, rfl, h, ha, hb, f1, f2, k⟩
  show t_Weights_add K _ [some (.ref A.sc), some (.int a), some (.ref b)] H
  unfold t_Weights_add
  obtain ⟨hv, hl, hw⟩ := id h.held
  obtain ⟨q0, e0, z0, hq0⟩ := hw a ha
  refine s_Weights_held T h (w := plus (s.held a) w) ((evr_call (ea_cons (ev_is (ev_at (ev_Weights_held T h (ev_var rfl)) hl (ev_var rfl) ha) e0) (ea_cons (ev_var rfl) ea_nil)) (spr_plus hq0 hb f1 f2)).imp ?_) (fun _ _ => ev_var rfl) (fun _ _ => ev_var rfl) ha fun H1 h1 k1 => k H1 h1 k1
  rintro _ H2 e2 ⟨q, rfl, n, hq⟩
  exact wv_new h n hq
theorem pur_Weights_rested (T : TxtK K) : ∀ vs H Q E, sp_Weights_rested K vs H Q E → t_Weights_rested K { nx := fun _ H' => Q .non H', rt := Q } (start N_Weights_rested vs) H := by
  rintro vs H Q E ⟨A, s, Z, a, rfl, h, ⟨ha, hlen⟩, k⟩
  show t_Weights_rested K _ [some (.ref A.sc), some (.int a)] H
  unfold t_Weights_rested
  refine s_ifB (et_test (ev_op (ev_var rfl) ev_c rv_gt)) (fun b H1 e1 => ?_) (fun b H1 e1 => ?_)
  · have a0 : 0 < a := by have := of_decide_eq_true b; omega
    have h1 := h.mono e1
    obtain ⟨hv, hl, hw⟩ := id h1.held
    obtain ⟨vs, hl2, hw2⟩ := h1.hl a ha
    have w0 := hw a ha
    refine s_app hl2 (ev_at (i := a) (g := fun i => .ref (A.hl i)) (ev_Weights_homeward T h1 (ev_var rfl)) h1.hw (ev_var rfl) ha) (ev_at (ev_Weights_held T h1 (ev_var rfl)) hl (ev_var rfl) ha) (by rw [hw2.len]; omega) fun H2 e2 => ?_
    have h2 := (h1.mono e2).set_hl ha (s.hw a ++ [s.held a]) ((hw2.snoc w0).keep fun a o q _ => e2 a o q)
    refine s_Weights_held T h2 (w := (0, 0)) ((evr_tup eu_00).imp ?_) (fun _ _ => ev_var rfl) (fun _ _ => ev_var rfl) ha fun H3 h3 k3 => ?_
    · rintro _ H3 e3 ⟨q, rfl, n, hq⟩
      exact wv_new h2 n hq
    · refine k H3 ?_ ((Kp.ex e1).trans ((kp_st e2 (h.ok.r_hl a ha) (by omega)).trans k3))
      have e : s.wRested a = { s with hw := up s.hw a (s.hw a ++ [s.held a]), held := up s.held a (0, 0) } := by unfold S.wRested; rw [if_pos a0]
      rw [e]
      exact h3
  · have a0 : ¬ 0 < a := by have := of_decide_eq_false b; omega
    refine k H1 ?_ (Kp.ex e1)
    have e : s.wRested a = s := by unfold S.wRested; rw [if_neg a0]
    rw [e]
    exact h.mono e1
theorem pur_Weights_came_home (T : TxtK K) : ∀ vs H Q E, sp_Weights_came_home K vs H Q E → t_Weights_came_home K { nx := fun _ H' => Q .non H', rt := Q } (start N_Weights_came_home vs) H := by
  rintro vs H Q E ⟨A, s, Z, a, rfl, h, ⟨a0, ha, hne, f0, ff⟩, k⟩
  show t_Weights_came_home K _ [some (.ref A.sc), some (.int a)] H
  unfold t_Weights_came_home
  refine ⟨_, rfl, A.sc, A.sdx, _, rfl, h.sc, by kernel_rfl, ?_⟩
  show (tBM K "list" rPopAt (tOp (rIxL K) (tFld K (tVar 0) "homeward") (tVar 1)) (tCons (tC (.int 0)) tNil)) _ H _
  refine (ev_at (i := a) (g := fun i => .ref (A.hl i)) (ev_Weights_homeward T h (ev_var rfl)) h.hw (ev_var rfl) ha) H (Ex.refl H) _ fun H1 e1 => ?_
  have h1 := h.mono e1
  obtain ⟨vs, hl2, hw2⟩ := h1.hl a ha
  refine ⟨Or.inl ⟨rfl, vs, sq_of hl2⟩, ?_⟩
  cases ev : vs with
  | nil =>
    have := hw2.len
    rw [ev] at this
    exact absurd (List.length_eq_zero_iff.mp this.symm) hne
  | cons v r =>
    cases ew : s.hw a with
    | nil => exact absurd ew hne
    | cons w ws =>
      rw [ev] at hl2
      rw [ev, ew] at hw2
      refine ⟨A.hl a, v :: r, 0, 0, v, rfl, rfl, hl2, by decide, by decide, by simp [seqIndex?], rfl, ?_⟩
      have h2 := h1.set_hl ha ws hw2.2
      obtain ⟨q, eq, zq, hq⟩ := hw2.1.keep (h1.zk (x := A.hl a) (o := .lst r) (by rw [h.ok.r_hl a ha]; omega))
      subst eq
      refine ⟨A, { s with hw := up s.hw a ws }, Z, 0, q, w, rfl, h2, by show 0 < s.n; omega, hq, f0, ff w (by rw [ew]; exact List.mem_cons_self), fun H3 h3 k3 => k H3 ?_ ((kp_st e1 (h.ok.r_hl a ha) (by omega)).trans k3)⟩
      have e : s.cameHome a = S.add { s with hw := up s.hw a ws } 0 w := by unfold S.cameHome; rw [ew]; rfl
      rw [e]
      exact h3
end
end QH

/-! What the program's defs do: the hall's acts. -/
namespace QH
open PySem PySem.Spec PyProof.Rows L2 Evl
section
variable {K : PySem.W.Frag} {Z : Addr → Prop} {σ : L2.St} {H H' : Hp} {ta tb tc te tv : TE} {t u : TT} {x y z v : V} {a C dx p c : Addr} {A : Ad} {s : S} {D : Ends} {j : Nat} {w : Wt} {P : V → Hp → Prop}
theorem ev_chain {i j k : Int} (ha : Ev ta σ H (.int i)) (hb : Ev tb σ H (.int j)) (hc : Ev tc σ H (.int k)) : Ev (tChain rLeI rLtI ta tb tc) σ H (.bl (decide (i ≤ j) && decide (j < k))) := fun H1 e Q q =>
  ha H1 e _ fun H2 e2 => hb H2 (e.trans e2) _ fun H3 e3 => ⟨i, j, rfl, rfl, decide (i ≤ j), rfl, by
    cases hd : decide (i ≤ j) with
    | true =>
      rw [if_pos rfl]
      exact hc H3 ((e.trans e2).trans e3) _ fun H4 e4 => ⟨j, k, rfl, rfl, by have := q H4 ((e2.trans e3).trans e4); rw [hd] at this; exact this⟩
    | false =>
      rw [if_neg (by decide)]
      have := q H3 (e2.trans e3)
      rw [hd] at this
      exact this⟩
theorem s_methX {sp : Sp} {tg : TA} {fs : List (Str × V)} {m : Str} {dx : Addr} (h : Ev ta σ H (.ref a)) (ho : H a = some (.ins C dx fs)) (hm : fs.lookup m = none) (k : ∀ H1, Ex H H1 → tg σ H1 fun vs H2 => sp (.ref a :: (vs ++ [])) H2 (fun _ H3 => D.nx σ H3) E0) :
    tDrop (tMeth C m sp [] E0 ta tg) D σ H := h H (Ex.refl H) _ fun H1 e1 => ⟨a, dx, fs, rfl, e1 _ _ ho, hm, k H1 e1⟩
theorem u_meth {sp : Sp} {tg : TA} {fs : List (Str × V)} {m : Str} {dx : Addr} {Q : VK} (h : Ev ta σ H (.ref a)) (ho : H a = some (.ins C dx fs)) (hm : fs.lookup m = none) (k : ∀ H1, Ex H H1 → tg σ H1 fun vs H2 => sp (.ref a :: (vs ++ [])) H2 Q E0) :
    tMeth C m sp [] E0 ta tg σ H Q := h H (Ex.refl H) _ fun H1 e1 => ⟨a, dx, fs, rfl, e1 _ _ ho, hm, k H1 e1⟩
theorem u_lst1 {Q : VK} (h : te σ H fun x H1 => [x].length ≤ sizeLine ∧ ∀ p, H1 p = none → Q (.ref p) (upd H1 p (.lst [x]))) : tLst (tCons te tNil) σ H Q := h
theorem u_dput {td ty : TE} (h : tv σ H fun v H1 => td σ H1 fun x H2 => ty σ H2 fun y H3 => ∃ a H4, x = .ref a ∧ DPut H3 a y v H4 ∧ D.nx σ H4) : sDPut td ty tv D σ H := h
theorem u_ev {Q : VK} (h : Ev te σ H v) (k : ∀ H1, Ex H H1 → Q v H1) : te σ H Q := h H (Ex.refl H) Q k
theorem u_evU {xs : List V} {Q : VK} (h : EvU te σ H xs) (k : ∀ p H1, H p = none → Ex H H1 → H1 p = some (.tup xs) → Q (.ref p) H1) : te σ H Q := h H (Ex.refl H) Q k
theorem u_evr {Q : VK} (h : EvR te σ H P) (k : ∀ v H1, Ex H H1 → P v H1 → Q v H1) : te σ H Q := h H (Ex.refl H) Q k
theorem u_sl {r : V → Option Int → Option Int → Hp → VK → Prop} {tl th : TO} {Q : VK} (h : te σ H fun x H1 => tl σ H1 fun l H2 => th σ H2 fun u H3 => r x l u H3 Q) : tSl r te tl th σ H Q := h
theorem u_asg {g : TG} (h : te σ H fun x H1 => g x σ H1 D.nx) : tAsg te g D σ H := h
theorem u_sub {to ti : TE} {r : TSet} {Q : L2.St → Hp → Prop} (h : to σ H fun o H1 => ti σ H1 fun i H2 => r o i v H2 fun H3 => Q σ H3) : gSub to ti r v σ H Q := h
theorem u_op {r : R2} {Q : VK} (h : ta σ H fun x H1 => tb σ H1 fun y H2 => r x y H2 Q) : tOp r ta tb σ H Q := h
theorem evr_dgetL {d : Addr} {kvs : List (List Key × V)} {i j : Nat} {td ty : TE} (hd : Ev td σ H (.ref d)) (hk : EvU ty σ H [.int i, .int j]) (h : H d = some (.dT kvs)) :
    EvR (tDGet2 td ty (tLst tNil)) σ H (fun v H2 => (∃ l, valV kvs (key i j) = none ∧ v = .ref l ∧ H l = none ∧ H2 l = some (.lst [])) ∨ valV kvs (key i j) = some v) := fun H1 e Q q =>
  hd H1 e _ fun H2 e2 => ⟨d, rfl, Or.inr ⟨kvs, Or.inl ((e.trans e2) _ _ h)⟩, hk H2 (e.trans e2) _ fun p H3 hp e3 hpt => ⟨Nat.zero_le _, fun l hl =>
    ⟨_, DGet.t (k := key i j) (kvs := kvs) ((Ex.new hl) _ _ (((e.trans e2).trans e3) _ _ h)) ((Ex.new hl) _ _ hpt), by
      refine q _ _ ((e2.trans e3).trans (Ex.new hl)) ?_
      cases ev : valV kvs (key i j) with
      | none => exact Or.inl ⟨l, rfl, rfl, fresh_back ((e.trans e2).trans e3) hl, upd_same⟩
      | some v => exact Or.inr rfl⟩⟩⟩
theorem pur_Hall_must_be (T : TxtK K) : ∀ vs H Q E, sp_Hall_must_be K vs H Q E → t_Hall_must_be K { nx := fun _ H' => Q .non H', rt := Q } (start N_Hall_must_be vs) H := by
  rintro vs H Q E ⟨A, s, Z, a, rfl, h, ha, k⟩
  show t_Hall_must_be K _ [some (.ref A.p), some (.int a)] H
  unfold t_Hall_must_be
  refine s_ifB (et_not (et_test (ev_chain ev_c (ev_var rfl) (ev_Hall_many T h (ev_var rfl))))) (fun b H1 e1 => ?_) (fun b H1 e1 => k H1 e1)
  rw [decide_eq_true (show (0 : Int) ≤ a by omega), decide_eq_true (show (a : Int) < s.n by omega)] at b
  cases b
theorem pur_Hall_must (T : TxtK K) : ∀ vs H Q E, sp_Hall_must K vs H Q E → t_Hall_must K { nx := fun _ H' => Q .non H', rt := Q } (start N_Hall_must vs) H := by
  rintro vs H Q E ⟨v, rfl, k⟩
  show t_Hall_must K _ [some v, some (.bl true)] H
  unfold t_Hall_must
  refine s_ifB (et_not (et_B (ev_var rfl))) (fun b H1 e1 => ?_) (fun b H1 e1 => k H1 e1)
  cases b
/-- self.must_be(x), self.must_be_two(x, y), self.must(t), dropped -/
theorem s_must_be (h : HallAt K Z H A s) {j : Nat} (ho : Ev ta σ H (.ref A.p)) (hj : Ev tb σ H (.int j)) (hl : j < s.n) (k : ∀ H1, Ex H H1 → D.nx σ H1) : tDrop (tMeth (He.ga K "Hall") "must_be" (sp_Hall_must_be K) [] E0 ta (tCons tb tNil)) D σ H :=
  s_meth ho h.p (by kernel_rfl) (ea_cons hj ea_nil) fun H1 e => ⟨A, s, Z, j, rfl, h.mono e, hl, fun H2 e2 => k H2 (e.trans e2)⟩
theorem s_must_be_two (h : HallAt K Z H A s) {i j : Nat} (ho : Ev ta σ H (.ref A.p)) (hi : Ev tb σ H (.int i)) (hj : Ev tc σ H (.int j)) (hl : Two s.n i j) (k : ∀ H1, Ex H H1 → D.nx σ H1) :
    tDrop (tMeth (He.ga K "Hall") "must_be_two" (sp_Hall_must_be_two K) [] E0 ta (tCons tb (tCons tc tNil))) D σ H :=
  s_meth ho h.p (by kernel_rfl) (ea_cons hi (ea_cons hj ea_nil)) fun H1 e => ⟨A, s, Z, i, j, rfl, h.mono e, hl, fun H2 e2 => k H2 (e.trans e2)⟩
theorem s_must (h : HallAt K Z H A s) {b : Bool} (ho : Ev ta σ H (.ref A.p)) (hi : Ev tb σ H (.bl b)) (hb : b = true) (k : ∀ H1, Ex H H1 → D.nx σ H1) :
    tDrop (tMeth (He.ga K "Hall") "must" (sp_Hall_must K) [] E0 ta (tCons tb tNil)) D σ H :=
  s_meth ho h.p (by kernel_rfl) (ea_cons hi ea_nil) fun H1 e => ⟨.ref A.p, by rw [hb]; rfl, fun H2 e2 => k H2 (e.trans e2)⟩
theorem pur_Hall_must_be_two (T : TxtK K) : ∀ vs H Q E, sp_Hall_must_be_two K vs H Q E → t_Hall_must_be_two K { nx := fun _ H' => Q .non H', rt := Q } (start N_Hall_must_be_two vs) H := by
  rintro vs H Q E ⟨A, s, Z, a, b, rfl, h, ⟨ha, hb, hab⟩, k⟩
  show t_Hall_must_be_two K _ [some (.ref A.p), some (.int a), some (.int b)] H
  unfold t_Hall_must_be_two
  refine s_must_be h (ev_var rfl) (ev_var rfl) ha fun H1 e1 => ?_
  refine s_must_be (h.mono e1) (ev_var rfl) (ev_var rfl) hb fun H2 e2 => ?_
  refine s_ifB (et_test (ev_eqI (ev_var rfl) (ev_var rfl))) (fun c H3 e3 => ?_) (fun c H3 e3 => k H3 (e1.trans (e2.trans e3)))
  have := of_decide_eq_true c
  omega
theorem pur_Hall_row (T : TxtK K) : ∀ vs H Q E, sp_Hall_row K vs H Q E → t_Hall_row K { nx := fun _ H' => Q .non H', rt := Q } (start N_Hall_row vs) H := by
  rintro vs H Q E ⟨A, s, Z, a, b, rfl, h, ⟨ha, hb⟩, k⟩
  show t_Hall_row K _ [some (.ref A.p), some (.int a), some (.int b)] H
  unfold t_Hall_row
  obtain ⟨kvs, h1, h2, h3⟩ := id h.rows
  refine s_retR (evr_dgetL (ev_Hall_rows T h (ev_var rfl)) (eu_pair (i := a) (j := b) (ev_var rfl) (ev_var rfl)) h1) fun v H2 e hv => ?_
  have r := h3 a b ha hb
  rcases hv with ⟨l, ev, rfl, hn, hl⟩ | ev
  · rw [ev] at r
    have r : s.rows a b = [] := r
    refine k _ l [] e (h.zr l (h.zf l hn)) hl ?_
    rw [r]
    trivial
  · rw [ev] at r
    obtain ⟨m, us, rfl, zm, hm, hw⟩ := r
    exact k _ m us e (h.zr m zm) (e _ _ hm) (hw.keep fun a o q _ => e a o q)
/-- self.row(one, other) -/
theorem evr_row (h : HallAt K Z H A s) {i j : Nat} (ho : Ev ta σ H (.ref A.p)) (hi : Ev tb σ H (.int i)) (hj : Ev tc σ H (.int j)) (h1 : i < s.n) (h2 : j < s.n) :
    EvR (tMeth (He.ga K "Hall") "row" (sp_Hall_row K) [] E0 ta (tCons tb (tCons tc tNil))) σ H (fun v H2 => ∃ l us, v = .ref l ∧ A.R l = 0 ∧ H2 l = some (.lst us) ∧ WLs Z H2 us (s.rows i j)) :=
  evr_meth ho h.p (by kernel_rfl) (ea_cons hi (ea_cons hj ea_nil)) fun H1 e Q q E => ⟨A, s, Z, i, j, rfl, h.mono e, ⟨h1, h2⟩, fun H' l us e' r hl hw => q _ H' e' ⟨l, us, rfl, r, hl, hw⟩⟩
/-- the dict of rows, a row stored -/
theorem row_put (h : HallAt K Z H A s) {kvs : List (List Key × V)} (h1 : H A.rows = some (.dT kvs)) (h2 : Keyed s.n kvs) (h3 : ∀ i j, i < s.n → j < s.n → RowAt Z H (valV kvs (key i j)) (s.rows i j)) {i j : Nat} (hi : i < s.n) (hj : j < s.n) {l : Addr} {us : List V} {ws : List Wt}
    (zl : Z l) (hl : H l = some (.lst us)) (hw : WLs Z H us ws) : HallAt K Z (upd H A.rows (.dT (putK kvs (key i j) (.ref l)))) A (s.setRow i j ws) := by
  refine h.set_rows (up2 s.rows i j ws) (h2.put hi hj) fun a b ha hb => ?_
  rw [valV_put]
  by_cases q : a = i ∧ b = j
  · obtain ⟨rfl, rfl⟩ := q
    rw [if_pos rfl, up2_same]
    exact ⟨l, us, rfl, zl, hl, hw⟩
  · rw [if_neg (fun z => q (key_inj.mp z)), up2_ne q]
    exact h3 a b ha hb
theorem sub_act1 {rcv : Ad → Addr} {pre : S → Nat → Prop} {st : S → Nat → S} {Cn m : Str} {fs : List (Str × V)} {dx : Addr} (h : HallAt K Z H A s) {i : Nat} (hr : H (rcv A) = some (.ins (He.ga K Cn) dx fs)) (hm : fs.lookup m = none) (ho : Ev ta σ H (.ref (rcv A))) (hi : Ev tb σ H (.int i)) (hp : pre s i)
    (k : ∀ H1, HallAt K Z H1 A (st s i) → Kp A H H1 → D.nx σ H1) : tDrop (tMeth (He.ga K Cn) m (spAct1 K rcv pre st) [] E0 ta (tCons tb tNil)) D σ H :=
  s_meth ho hr hm (ea_cons hi ea_nil) fun H1 e => ⟨A, s, Z, i, rfl, h.mono e, hp, fun H2 h2 k2 => k H2 h2 ((Kp.ex e).trans k2)⟩
theorem sub_act2 {rcv : Ad → Addr} {pre : S → Nat → Nat → Prop} {st : S → Nat → Nat → S} {Cn m : Str} {fs : List (Str × V)} {dx : Addr} (h : HallAt K Z H A s) {i j : Nat} (hr : H (rcv A) = some (.ins (He.ga K Cn) dx fs)) (hm : fs.lookup m = none) (ho : Ev ta σ H (.ref (rcv A))) (hi : Ev tb σ H (.int i)) (hj : Ev tc σ H (.int j)) (hp : pre s i j)
    (k : ∀ H1, HallAt K Z H1 A (st s i j) → Kp A H H1 → D.nx σ H1) : tDrop (tMeth (He.ga K Cn) m (spAct2 K rcv pre st) [] E0 ta (tCons tb (tCons tc tNil))) D σ H :=
  s_meth ho hr hm (ea_cons hi (ea_cons hj ea_nil)) fun H1 e => ⟨A, s, Z, i, j, rfl, h.mono e, hp, fun H2 h2 k2 => k H2 h2 ((Kp.ex e).trans k2)⟩
theorem sub_act0 {rcv : Ad → Addr} {pre : S → Prop} {st : S → S} {Cn m : Str} {fs : List (Str × V)} {dx : Addr} (h : HallAt K Z H A s) (hr : H (rcv A) = some (.ins (He.ga K Cn) dx fs)) (hm : fs.lookup m = none) (ho : Ev ta σ H (.ref (rcv A))) (hp : pre s)
    (k : ∀ H1, HallAt K Z H1 A (st s) → Kp A H H1 → D.nx σ H1) : tDrop (tMeth (He.ga K Cn) m (spAct0 K rcv pre st) [] E0 ta tNil) D σ H :=
  s_meth ho hr hm ea_nil fun H1 e => ⟨A, s, Z, rfl, h.mono e, hp, fun H2 h2 k2 => k H2 h2 ((Kp.ex e).trans k2)⟩
theorem pur_Hall_send (T : TxtK K) : ∀ vs H Q E, sp_Hall_send K vs H Q E → t_Hall_send K { nx := fun _ H' => Q .non H', rt := Q } (start N_Hall_send vs) H := by
  rintro vs H Q E ⟨A, s, Z, a, b, rfl, h, ⟨g, hab, hbusy⟩, k⟩
  show t_Hall_send K _ [some (.ref A.p), some (.int a), some (.int b)] H
  unfold t_Hall_send
  obtain ⟨ha, hb, hne⟩ := id hab
  refine s_must_be_two h (ev_var rfl) (ev_var rfl) (ev_var rfl) hab fun H1 e1 => ?_
  have h1 := h.mono e1
  refine s_must h1 (b := s.busy a) (ev_var rfl) (ev_at (ev_Hall_busy T h1 (ev_var rfl)) h1.busy (ev_var rfl) ha) hbusy fun H2 e2 => ?_
  have h2 := h1.mono e2
  -- self.rows[one, other] = self.row(one, other) + [self.scales.split(one)]
  refine u_dput (u_op (u_evr (evr_row h2 (ev_var rfl) (ev_var rfl) (ev_var rfl) ha hb) ?_))
  rintro _ H3 e3 ⟨l, us, rfl, rl, hl, hw⟩
  have h3 := h2.mono e3
  refine u_lst1 (u_meth (ev_Hall_scales T h3 (ev_var rfl)) h3.sc (by kernel_rfl) fun H4 e4 => ⟨_, rfl, ?_⟩)
  have h4 := h3.mono e4
  refine ⟨A, s, Z, a, rfl, h4, ha, fun H5 v h5 k5 wv => ?_⟩
  refine ⟨by show 1 ≤ sizeLine; decide, fun m hm => ?_⟩
  have l5 : H5 l = some (.lst us) := k5 _ _ (e4 _ _ hl) rl
  have lm : l ≠ m := ne_of_none l5 hm
  refine ⟨l, m, us, [v], rfl, rfl, by rw [upd_ne lm]; exact l5, upd_same, ?_, fun r hr => ?_⟩
  · rw [hw.len]
    have := g.rl a b ha hb
    exact Nat.le_trans (show _ ≤ 100000 by simp; omega) (by decide)
  have hr5 : H5 r = none := fresh_back (Ex.new hm) hr
  have e56 : Ex H5 (upd (upd H5 m (.lst [v])) r (.lst (us ++ [v]))) := (Ex.new hm).trans (Ex.new hr)
  generalize hH6 : upd (upd H5 m (.lst [v])) r (.lst (us ++ [v])) = H6 at *
  have r6 : H6 r = some (.lst (us ++ [v])) := by rw [← hH6]; exact upd_same
  have h6 := h5.mono e56
  obtain ⟨kvs, q1, q2, q3⟩ := id h6.rows
  refine u_ev (ev_Hall_rows T h6 (ev_var rfl)) fun H7 e7 => ?_
  refine u_evU (eu_pair (i := a) (j := b) (ev_var rfl) (ev_var rfl)) fun q H8 nq e8 hq => ?_
  have e68 := e7.trans e8
  have h8 := h6.mono e68
  refine ⟨A.rows, _, rfl, DPut.t (k := key a b) (e68 _ _ q1) hq (Nat.lt_of_le_of_lt (q2.len g.n6) (by decide)), ?_⟩
  have w5 : WLs Z H5 us (s.rows a b) := hw.keep fun x o hx zx => k5 _ _ (e4 _ _ hx) (h.zr x zx)
  have w8 : WLs Z H8 (us ++ [v]) (s.rows a b ++ [half (s.held a)]) := (w5.snoc wv).keep fun x o hx _ => (e56.trans e68) _ _ hx
  have h9 := row_put h8 (e68 _ _ q1) q2 (fun i j hi hj => (q3 i j hi hj).keep fun a o q _ => e68 a o q) ha hb (h5.zf r hr5) (e68 _ _ r6) w8
  have kp9 : Kp A H (upd H8 A.rows (.dT (putK kvs (key a b) (.ref r)))) := (Kp.ex (e1.trans (e2.trans (e3.trans e4)))).trans (k5.trans (kp_st (e56.trans e68) h.ok.r_rows (by decide)))
  refine sub_act1 (rcv := (·.tree)) h9 h9.tree (by kernel_rfl) (ev_Hall_tree T h9 (ev_var rfl)) (ev_var rfl) ha fun H10 h10 k10 => ?_
  exact sub_act1 (rcv := (·.ring)) h10 h10.ring (by kernel_rfl) (ev_Hall_ring T h10 (ev_var rfl)) (ev_var rfl) ha fun H11 h11 k11 => k _ h11 (kp9.trans (k10.trans k11))
theorem pur_Hall_take (T : TxtK K) : ∀ vs H Q E, sp_Hall_take K vs H Q E → t_Hall_take K { nx := fun _ H' => Q .non H', rt := Q } (start N_Hall_take vs) H := by
  rintro vs H Q E ⟨A, s, Z, a, b, rfl, h, ⟨g, hab, hrow⟩, k⟩
  show t_Hall_take K _ [some (.ref A.p), some (.int a), some (.int b)] H
  unfold t_Hall_take
  obtain ⟨ha, hb, hne⟩ := id hab
  obtain ⟨w, ws, hws⟩ : ∃ w ws, s.rows a b = w :: ws := by
    cases e : s.rows a b with
    | nil => exact absurd e hrow
    | cons w ws => exact ⟨w, ws, rfl⟩
  refine s_must_be_two h (ev_var rfl) (ev_var rfl) (ev_var rfl) hab fun H1 e1 => ?_
  have h1 := h.mono e1
  -- self.must(len(self.row(one, other)) > 0)
  refine s_methX (ev_var rfl) h1.p (by kernel_rfl) fun H1b e1b => ?_
  have h1b := h1.mono e1b
  refine u_evr (evr_row h1b (ev_var rfl) (ev_var rfl) (ev_var rfl) ha hb) ?_
  rintro _ H2 e2' ⟨l, us, rfl, rl, hl, hw⟩
  have e2 := e1b.trans e2'
  refine ⟨l, us, rfl, Or.inl (sq_of hl), _, _, rfl, rfl, ?_⟩
  refine ⟨.ref A.p, ?_, fun H3 e3 => ?_⟩
  · have : us.length = (s.rows a b).length := hw.len
    rw [hws] at this
    show [V.ref A.p, V.bl (decide ((0 : Int) < (us.length : Int)))] = [V.ref A.p, V.bl true]
    rw [decide_eq_true (by rw [this]; simp)]
  have h3 := h1.mono (e2.trans e3)
  -- self.scales.add(other, self.row(one, other)[0])
  refine s_methX (ev_Hall_scales T h3 (ev_var rfl)) h3.sc (by kernel_rfl) fun H4 e4 => ⟨_, rfl, ?_⟩
  have h4 := h3.mono e4
  refine u_evr (evr_row h4 (ev_var rfl) (ev_var rfl) (ev_var rfl) ha hb) ?_
  rintro _ H5 e5 ⟨l5, us5, rfl, rl5, hl5, hw5⟩
  cases us5 with
  | nil => rw [hws] at hw5; exact hw5.elim
  | cons v r5 =>
  rw [hws] at hw5
  obtain ⟨q0, rfl, zq0, hq0⟩ := hw5.1
  refine ⟨l5, _, 0, _, rfl, rfl, sq_of hl5, atI_nat (j := 0) rfl, ?_⟩
  have h5 := h4.mono e5
  refine ⟨A, s, Z, b, q0, w, rfl, h5, hb, hq0, g.hf b hb, g.rf a b ha hb w (by rw [hws]; exact List.mem_cons_self), fun H6 h6 k6 => ?_⟩
  -- self.rows[one, other] = self.row(one, other)[1:]
  refine u_dput (u_sl (u_evr (evr_row h6 (ev_var rfl) (ev_var rfl) (ev_var rfl) ha hb) ?_))
  rintro _ H7 e7 ⟨l7, us7, rfl, rl7, hl7, hw7⟩
  have hw7 : WLs Z H7 us7 (s.rows a b) := hw7
  cases us7 with
  | nil => rw [hws] at hw7; exact hw7.elim
  | cons v7 r7 =>
  rw [hws] at hw7
  refine ⟨1, rfl, l7, _, rfl, sq_of hl7, fun r hr => ?_⟩
  have ecut : cutV (v7 :: r7) (some 1) none = r7 := by
    unfold cutV
    have e1 : HT.sIx (v7 :: r7).length 0 (some 1) = 1 := by simp [HT.sIx]
    have e2 : HT.sIx (v7 :: r7).length (v7 :: r7).length none = (v7 :: r7).length := rfl
    rw [e1, e2]
    simp
  rw [ecut]
  have h7 := h6.mono e7
  have e78 : Ex H7 (upd H7 r (.lst r7)) := Ex.new hr
  have h8 := h7.mono e78
  generalize hH8 : upd H7 r (.lst r7) = H8 at *
  have r8 : H8 r = some (.lst r7) := by rw [← hH8]; exact upd_same
  obtain ⟨kvs, q1, q2, q3⟩ := id h8.rows
  refine u_ev (ev_Hall_rows T h8 (ev_var rfl)) fun H9 e9 => ?_
  refine u_evU (eu_pair (i := a) (j := b) (ev_var rfl) (ev_var rfl)) fun q H10 nq e10 hq => ?_
  have e810 := e9.trans e10
  refine ⟨A.rows, _, rfl, DPut.t (k := key a b) (e810 _ _ q1) hq (Nat.lt_of_le_of_lt (q2.len g.n6) (by decide)), ?_⟩
  have w10 : WLs Z H10 r7 ws := hw7.2.keep fun x o hx _ => (e78.trans e810) _ _ hx
  have h11 := row_put (h8.mono e810) (e810 _ _ q1) q2 (fun i j hi hj => (q3 i j hi hj).keep fun a o q _ => e810 a o q) ha hb (h7.zf r hr) (e810 _ _ r8) w10
  have kp11 : Kp A H (upd H10 A.rows (.dT (putK kvs (key a b) (.ref r)))) := (Kp.ex (e1.trans (e2.trans (e3.trans (e4.trans e5))))).trans (k6.trans (kp_st (e7.trans (e78.trans e810)) h.ok.r_rows (by decide)))
  refine s_Hall_busy T h11 (x := true) ev_c (ev_var rfl) (ev_var rfl) hb fun H12 h12 k12 => ?_
  refine sub_act2 (rcv := (·.tree)) h12 h12.tree (by kernel_rfl) (ev_Hall_tree T h12 (ev_var rfl)) (ev_var rfl) (ev_var rfl) ⟨ha, hb, g.n6⟩ fun H13 h13 k13 => ?_
  have n13 : (S.treeTaken { (S.setRow (s.add b w) a b ws) with busy := up (S.setRow (s.add b w) a b ws).busy b true } a b).n = s.n := by unfold S.treeTaken; split <;> rfl
  refine sub_act1 (rcv := (·.ring)) h13 h13.ring (by kernel_rfl) (ev_Hall_ring T h13 (ev_var rfl)) (ev_var rfl) (by rw [n13]; exact hb) fun H14 h14 k14 => k _ ?_ (kp11.trans (k12.trans (k13.trans k14)))
  have e : s.take a b = S.ringTaken (S.treeTaken { (S.setRow (s.add b w) a b ws) with busy := up (S.setRow (s.add b w) a b ws).busy b true } a b) b := by unfold S.take; rw [hws]; rfl
  rw [e]
  exact h14
theorem pur_Hall_rest (T : TxtK K) : ∀ vs H Q E, sp_Hall_rest K vs H Q E → t_Hall_rest K { nx := fun _ H' => Q .non H', rt := Q } (start N_Hall_rest vs) H := by
  rintro vs H Q E ⟨A, s, Z, a, rfl, h, ⟨g, ha, hbusy⟩, k⟩
  show t_Hall_rest K _ [some (.ref A.p), some (.int a)] H
  unfold t_Hall_rest
  refine s_must_be h (ev_var rfl) (ev_var rfl) ha fun H1 e1 => ?_
  have h1 := h.mono e1
  refine s_must h1 (b := s.busy a) (ev_var rfl) (ev_at (ev_Hall_busy T h1 (ev_var rfl)) h1.busy (ev_var rfl) ha) hbusy fun H2 e2 => ?_
  have h2 := h1.mono e2
  refine s_Hall_busy T h2 (x := false) ev_c (ev_var rfl) (ev_var rfl) ha fun H3 h3 k3 => ?_
  refine sub_act1 (rcv := (·.sc)) h3 h3.sc (by kernel_rfl) (ev_Hall_scales T h3 (ev_var rfl)) (ev_var rfl) ⟨ha, g.wl a ha⟩ fun H4 h4 k4 => ?_
  have n4 : ∀ r : S, (r.wRested a).n = r.n ∧ (r.wRested a).over = r.over := fun r => by unfold S.wRested; split <;> exact ⟨rfl, rfl⟩
  refine s_meth (ev_Hall_tree T h4 (ev_var rfl)) h4.tree (by kernel_rfl) (ea_cons (ev_var rfl) (ea_cons ev_c ea_nil)) fun H5 e5 => ?_
  refine ⟨A, _, Z, a, false, rfl, h4.mono e5, ?_, fun H6 h6 k6 => k _ h6 ((Kp.ex (e1.trans e2)).trans (k3.trans (k4.trans ((Kp.ex e5).trans k6))))⟩
  rw [(n4 _).1, (n4 _).2]
  exact ⟨ha, g.n6, fun o ho => g.ov a ha o ho⟩
theorem ev_receipts (h : HallAt K Z H A s) {i j : Nat} (ho : Ev ta σ H (.ref A.p)) (hi : Ev tb σ H (.int i)) (hj : Ev tc σ H (.int j)) (hl : Two s.n i j) :
    Ev (tMeth (He.ga K "Hall") "receipts" (sp_Hall_receipts K) [] E0 ta (tCons tb (tCons tc tNil))) σ H (.int (s.slips i j)) :=
  ev_meth ho h.p (by kernel_rfl) (ea_cons hi (ea_cons hj ea_nil)) (spv_ask2 (rcv := (·.p)) (val := fun s a b => .int (s.slips a b)) h hl)
theorem pur_Hall_back (T : TxtK K) : ∀ vs H Q E, sp_Hall_back K vs H Q E → t_Hall_back K { nx := fun _ H' => Q .non H', rt := Q } (start N_Hall_back vs) H := by
  rintro vs H Q E ⟨A, s, Z, a, b, rfl, h, ⟨g, hab, hs⟩, k⟩
  show t_Hall_back K _ [some (.ref A.p), some (.int a), some (.int b)] H
  unfold t_Hall_back
  obtain ⟨ha, hb, hne⟩ := id hab
  refine s_must_be_two h (ev_var rfl) (ev_var rfl) (ev_var rfl) hab fun H1 e1 => ?_
  have h1 := h.mono e1
  refine s_must h1 (ev_var rfl) (ev_op (ev_receipts h1 (ev_var rfl) (ev_var rfl) (ev_var rfl) hab) ev_c rv_gt) (decide_eq_true hs) fun H2 e2 => ?_
  have h2 := h1.mono e2
  refine sub_act2 (rcv := (·.tree)) h2 h2.tree (by kernel_rfl) (ev_Hall_tree T h2 (ev_var rfl)) (ev_var rfl) (ev_var rfl) ⟨ha, hb, g.n6, hs⟩ fun H3 h3 k3 => ?_
  refine s_meth (ev_Hall_tree T h3 (ev_var rfl)) h3.tree (by kernel_rfl) (ea_cons (ev_var rfl) (ea_cons (ev_at (ev_Hall_busy T h3 (ev_var rfl)) h3.busy (ev_var rfl) ha) ea_nil)) fun H5 e5 => ?_
  exact ⟨A, _, Z, a, s.busy a, rfl, h3.mono e5, ⟨ha, g.n6, fun o ho => g.ov a ha o ho⟩, fun H6 h6 k6 => k _ h6 ((Kp.ex (e1.trans e2)).trans (k3.trans ((Kp.ex e5).trans k6)))⟩
theorem pur_Hall_home (T : TxtK K) : ∀ vs H Q E, sp_Hall_home K vs H Q E → t_Hall_home K { nx := fun _ H' => Q .non H', rt := Q } (start N_Hall_home vs) H := by
  rintro vs H Q E ⟨A, s, Z, a, rfl, h, ⟨g, a0, ha, hne⟩, k⟩
  show t_Hall_home K _ [some (.ref A.p), some (.int a)] H
  unfold t_Hall_home
  refine s_must_be h (ev_var rfl) (ev_var rfl) ha fun H1 e1 => ?_
  have h1 := h.mono e1
  refine s_ifB (et_test (ev_eqI (ev_var rfl) ev_c)) (fun b H2 e2 => ?_) (fun b H2 e2 => ?_)
  · have := of_decide_eq_true b
    omega
  · have h2 := h1.mono e2
    obtain ⟨vs, hl2, hw2⟩ := h2.hl a ha
    refine s_must h2 (ev_var rfl) (ev_op (ev_len (ev_at (i := a) (g := fun i => .ref (A.hl i)) (ev_Weights_homeward T h2 (ev_Hall_scales T h2 (ev_var rfl))) h2.hw (ev_var rfl) ha) (sq_of hl2)) ev_c rv_gt) (decide_eq_true ?_) fun H3 e3 => ?_
    · have : vs.length ≠ 0 := by rw [hw2.len]; exact fun z => hne (List.length_eq_zero_iff.mp z)
      omega
    · have h3 := h2.mono e3
      exact sub_act1 (rcv := (·.sc)) h3 h3.sc (by kernel_rfl) (ev_Hall_scales T h3 (ev_var rfl)) (ev_var rfl) ⟨a0, ha, hne, g.hf 0 (by have := g.n2; omega), g.wf a ha⟩ fun H4 h4 k4 => k _ h4 ((Kp.ex (e1.trans (e2.trans e3))).trans k4)
theorem pur_Hall_pass_on (T : TxtK K) : ∀ vs H Q E, sp_Hall_pass_on K vs H Q E → t_Hall_pass_on K { nx := fun _ H' => Q .non H', rt := Q } (start N_Hall_pass_on vs) H := by
  rintro vs H Q E ⟨A, s, Z, rfl, h, ⟨g, hb⟩, k⟩
  show t_Hall_pass_on K _ [some (.ref A.p)] H
  unfold t_Hall_pass_on
  have hb : s.busy s.place = false := hb
  refine s_must h (ev_var rfl) (ev_notV (ev_at (ev_Hall_busy T h (ev_var rfl)) h.busy (ev_Ring_place T h (ev_Hall_ring T h (ev_var rfl))) g.pl)) (by rw [hb]; rfl) fun H1 e1 => ?_
  have h1 := h.mono e1
  exact sub_act0 (rcv := (·.ring)) h1 h1.ring (by kernel_rfl) (ev_Hall_ring T h1 (ev_var rfl)) g.pl fun H4 h4 k4 => k _ h4 ((Kp.ex e1).trans k4)
end
end QH

/-! What the program's defs do: the hall's questions, its maker. -/
namespace QH
open PySem PySem.Spec PyProof.Rows L2 Evl
section
variable {K : PySem.W.Frag} {Z : Addr → Prop} {σ : L2.St} {H H' : Hp} {ta tb tc te tv : TE} {t u : TT} {x y z v : V} {a C dx p c : Addr} {A : Ad} {s : S} {D : Ends} {j : Nat} {w : Wt} {P : V → Hp → Prop}
theorem pur_Hall_open_of (T : TxtK K) : ∀ vs H Q E, sp_Hall_open_of K vs H Q E → t_Hall_open_of K { nx := fun _ H' => Q .non H', rt := Q } (start N_Hall_open_of vs) H := by
  rintro vs H Q E ⟨A, s, Z, a, rfl, h, ha, k⟩
  show t_Hall_open_of K _ [some (.ref A.p), some (.int a)] H
  unfold t_Hall_open_of
  refine s_must_be h (ev_var rfl) (ev_var rfl) ha fun H1 e1 => ?_
  have h1 := h.mono e1
  exact s_ret (ev_at (i := a) (g := fun i => .int (s.due i)) (ev_Tree_due T h1 (ev_Hall_tree T h1 (ev_var rfl))) h1.due (ev_var rfl) ha) fun H2 e2 => k H2 (e1.trans e2)
theorem pur_Hall_above (T : TxtK K) : ∀ vs H Q E, sp_Hall_above K vs H Q E → t_Hall_above K { nx := fun _ H' => Q .non H', rt := Q } (start N_Hall_above vs) H := by
  rintro vs H Q E ⟨A, s, Z, a, rfl, h, ha, k⟩
  show t_Hall_above K _ [some (.ref A.p), some (.int a)] H
  unfold t_Hall_above
  refine s_must_be h (ev_var rfl) (ev_var rfl) ha fun H1 e1 => ?_
  have h1 := h.mono e1
  exact s_ret (ev_at (i := a) (g := fun i => ovV (s.over i)) (ev_Tree_over T h1 (ev_Hall_tree T h1 (ev_var rfl))) h1.over (ev_var rfl) ha) fun H2 e2 => k H2 (e1.trans e2)
theorem pur_Hall_count_of (T : TxtK K) : ∀ vs H Q E, sp_Hall_count_of K vs H Q E → t_Hall_count_of K { nx := fun _ H' => Q .non H', rt := Q } (start N_Hall_count_of vs) H := by
  rintro vs H Q E ⟨A, s, Z, a, rfl, h, ha, k⟩
  show t_Hall_count_of K _ [some (.ref A.p), some (.int a)] H
  unfold t_Hall_count_of
  refine s_must_be h (ev_var rfl) (ev_var rfl) ha fun H1 e1 => ?_
  have h1 := h.mono e1
  exact s_ret (ev_at (i := a) (g := fun i => .int (s.cnt i)) (ev_Ring_counts T h1 (ev_Hall_ring T h1 (ev_var rfl))) h1.cnt (ev_var rfl) ha) fun H2 e2 => k H2 (e1.trans e2)
theorem pur_Hall_colour_of (T : TxtK K) : ∀ vs H Q E, sp_Hall_colour_of K vs H Q E → t_Hall_colour_of K { nx := fun _ H' => Q .non H', rt := Q } (start N_Hall_colour_of vs) H := by
  rintro vs H Q E ⟨A, s, Z, a, rfl, h, ha, k⟩
  show t_Hall_colour_of K _ [some (.ref A.p), some (.int a)] H
  unfold t_Hall_colour_of
  refine s_must_be h (ev_var rfl) (ev_var rfl) ha fun H1 e1 => ?_
  have h1 := h.mono e1
  exact s_ret (ev_at (i := a) (g := fun i => colS (s.blk i)) (ev_Ring_colours T h1 (ev_Hall_ring T h1 (ev_var rfl))) h1.col (ev_var rfl) ha) fun H2 e2 => k H2 (e1.trans e2)
theorem pur_Hall_weight_of (T : TxtK K) : ∀ vs H Q E, sp_Hall_weight_of K vs H Q E → t_Hall_weight_of K { nx := fun _ H' => Q .non H', rt := Q } (start N_Hall_weight_of vs) H := by
  rintro vs H Q E ⟨A, s, Z, a, rfl, h, ha, k⟩
  show t_Hall_weight_of K _ [some (.ref A.p), some (.int a)] H
  unfold t_Hall_weight_of
  refine s_must_be h (ev_var rfl) (ev_var rfl) ha fun H1 e1 => ?_
  have h1 := h.mono e1
  obtain ⟨hv, hl, hw⟩ := id h1.held
  exact s_ret (ev_at (ev_Weights_held T h1 (ev_Hall_scales T h1 (ev_var rfl))) hl (ev_var rfl) ha) fun H2 e2 => k H2 _ (e1.trans e2) ((hw a ha).keep fun a o q _ => e2 a o q)
theorem pur_Hall_receipts (T : TxtK K) : ∀ vs H Q E, sp_Hall_receipts K vs H Q E → t_Hall_receipts K { nx := fun _ H' => Q .non H', rt := Q } (start N_Hall_receipts vs) H := by
  rintro vs H Q E ⟨A, s, Z, a, b, rfl, h, hab, k⟩
  show t_Hall_receipts K _ [some (.ref A.p), some (.int a), some (.int b)] H
  unfold t_Hall_receipts
  refine s_must_be_two h (ev_var rfl) (ev_var rfl) (ev_var rfl) hab fun H1 e1 => ?_
  have h1 := h.mono e1
  obtain ⟨kvs, q1, q2, q3⟩ := id h1.slips
  exact s_ret (ev_is (ev_dget2 (ev_Tree_slips T h1 (ev_Hall_tree T h1 (ev_var rfl))) (eu_pair (ev_var rfl) (ev_var rfl)) ev_c q1) (q3 a b hab.1 hab.2.1)) fun H2 e2 => k H2 (e1.trans e2)
theorem evr_lenR {us : List V} (h : EvR te σ H P) (hP : ∀ v H2, Ex H H2 → P v H2 → ∃ l xs, v = .ref l ∧ (SqL K H2 l xs ∨ SqT K H2 l xs) ∧ xs.length = us.length) : Ev (tCB (rLenS K) (tCons te tNil)) σ H (.int (us.length : Nat)) := fun H1 e Q q =>
  h H1 e _ fun v H2 e2 pv => by
    obtain ⟨l, xs, rfl, hs, hl⟩ := hP v H2 (e.trans e2) pv
    exact ⟨l, xs, rfl, hs, by rw [hl]; exact q H2 e2⟩
theorem ev_lenW {ws : List Wt} (h : EvR te σ H (fun v H2 => ∃ l us, v = .ref l ∧ A.R l = 0 ∧ H2 l = some (.lst us) ∧ WLs Z H2 us ws)) : Ev (tCB (rLenS K) (tCons te tNil)) σ H (.int (ws.length : Nat)) := fun H1 e Q q =>
  h H1 e _ fun v H2 e2 ⟨l, us, ev, _, hl, hw⟩ => by
    subst ev
    exact ⟨l, us, rfl, Or.inl (sq_of hl), by rw [hw.len]; exact q H2 e2⟩
theorem pur_Hall_works (T : TxtK K) : ∀ vs H Q E, sp_Hall_works K vs H Q E → t_Hall_works K { nx := fun _ H' => Q .non H', rt := Q } (start N_Hall_works vs) H := by
  rintro vs H Q E ⟨A, s, Z, a, b, rfl, h, hab, k⟩
  show t_Hall_works K _ [some (.ref A.p), some (.int a), some (.int b)] H
  unfold t_Hall_works
  refine s_must_be_two h (ev_var rfl) (ev_var rfl) (ev_var rfl) hab fun H1 e1 => ?_
  have h1 := h.mono e1
  exact s_ret (ev_lenW (evr_row h1 (ev_var rfl) (ev_var rfl) (ev_var rfl) hab.1 hab.2.1)) fun H2 e2 => k H2 (e1.trans e2)
theorem pur_Hall_weights_on (T : TxtK K) : ∀ vs H Q E, sp_Hall_weights_on K vs H Q E → t_Hall_weights_on K { nx := fun _ H' => Q .non H', rt := Q } (start N_Hall_weights_on vs) H := by
  rintro vs H Q E ⟨A, s, Z, a, b, rfl, h, hab, k⟩
  show t_Hall_weights_on K _ [some (.ref A.p), some (.int a), some (.int b)] H
  unfold t_Hall_weights_on
  refine s_must_be_two h (ev_var rfl) (ev_var rfl) (ev_var rfl) hab fun H1 e1 => ?_
  have h1 := h.mono e1
  refine (evr_row h1 (ta := tVar 0) (tb := tVar 1) (tc := tVar 2) (ev_var rfl) (ev_var rfl) (ev_var rfl) hab.1 hab.2.1 : EvR _ [some (.ref A.p), some (.int a), some (.int b)] H1 _) H1 (Ex.refl H1) _ ?_
  rintro _ H2 e2 ⟨l, us, rfl, rl, hl, hw⟩
  exact ⟨l, us, rfl, Or.inl ⟨sq_of hl, fun q hq => k _ q us (e1.trans (e2.trans (Ex.new hq))) (fresh_back (e1.trans e2) hq) upd_same (hw.keep fun a o r _ => (Ex.new hq) a o r)⟩⟩
theorem pur_Hall_weights_home (T : TxtK K) : ∀ vs H Q E, sp_Hall_weights_home K vs H Q E → t_Hall_weights_home K { nx := fun _ H' => Q .non H', rt := Q } (start N_Hall_weights_home vs) H := by
  rintro vs H Q E ⟨A, s, Z, a, rfl, h, ha, k⟩
  show t_Hall_weights_home K _ [some (.ref A.p), some (.int a)] H
  unfold t_Hall_weights_home
  refine s_must_be h (ev_var rfl) (ev_var rfl) ha fun H1 e1 => ?_
  have h1 := h.mono e1
  refine (ev_at (i := a) (g := fun i => .ref (A.hl i)) (ev_Weights_homeward T h1 (ev_Hall_scales T h1 (ev_var rfl))) h1.hw (ev_var rfl) ha : Ev _ [some (.ref A.p), some (.int a)] H1 _) H1 (Ex.refl H1) _ fun H2 e2 => ?_
  obtain ⟨us, hl, hw⟩ := (h1.mono e2).hl a ha
  exact ⟨A.hl a, us, rfl, Or.inl ⟨sq_of hl, fun q hq => k _ q us (e1.trans (e2.trans (Ex.new hq))) (fresh_back (e1.trans e2) hq) upd_same (hw.keep fun a o r _ => (Ex.new hq) a o r)⟩⟩
theorem pur_Hall_token (T : TxtK K) : ∀ vs H Q E, sp_Hall_token K vs H Q E → t_Hall_token K { nx := fun _ H' => Q .non H', rt := Q } (start N_Hall_token vs) H := by
  rintro vs H Q E ⟨A, s, Z, rfl, h, k⟩
  show t_Hall_token K _ [some (.ref A.p)] H
  unfold t_Hall_token
  exact s_retU (eu_tup (ea_cons (ev_Ring_place T h (ev_Hall_ring T h (ev_var rfl))) (ea_cons (ev_Ring_sum T h (ev_Hall_ring T h (ev_var rfl))) (ea_cons (ev_Ring_colour T h (ev_Hall_ring T h (ev_var rfl))) ea_nil))) (by show 3 ≤ 100000; decide)) fun q H1 n e hq => k H1 q e n hq
theorem eu_tupOf {xs : List V} (h : EvL te σ H xs) : EvU (tCB (rTupOf K) (tCons te tNil)) σ H xs := fun H1 e Q q => h H1 e _ fun p H2 n e2 hp => ⟨p, xs, rfl, Or.inl ⟨sq_of hp, fun r hr => q r _ (fresh_back e2 hr) (e2.trans (Ex.new hr)) upd_same⟩⟩
theorem s_workV : (s.working.map fun (i : Nat) => V.int (i : Int)) = given s.n (fun i => s.busy i) (fun i => .int i) := rfl
theorem pur_Hall_working (T : TxtK K) : ∀ vs H Q E, sp_Hall_working K vs H Q E → t_Hall_working K { nx := fun _ H' => Q .non H', rt := Q } (start N_Hall_working vs) H := by
  rintro vs H Q E ⟨A, s, Z, rfl, h, hn, k⟩
  show t_Hall_working K _ [some (.ref A.p), none] H
  unfold t_Hall_working
  have q := el_lcR1 (σ := [some (V.ref A.p), none]) (H := H) (ta := tCons (tFld K (tVar 0) "many") tNil) (t := tB (tOp (rIxL K) (tFld K (tVar 0) "busy") (tVar 1))) (te := tVar 1) (j := 1) (vs := [1]) (n := (s.n : Int)) (fun i => s.busy i) (fun i => .int i)
    (ea_cons (ev_Hall_many T h (ev_var rfl)) ea_nil) ⟨by omega, by omega⟩ (fun _ => rfl) (fun i H1 e hi => et_B (ev_at (i := i) (g := fun i => .bl (s.busy i)) (ev_Hall_busy T (h.mono e) (ev_var rfl)) (h.mono e).busy (ev_var rfl) (by omega))) (fun i H1 e hi _ => ev_var rfl)
  have en : ((s.n : Int)).toNat = s.n := by omega
  rw [en, ← s_workV] at q
  exact s_retU (eu_tupOf q) fun r H1 n e hr => k H1 r e n hr
/-! ### equal data -/
def wD (w : Wt) : PyData := .tuple [.int w.1, .int w.2]
theorem wD_eq {w z : Wt} : PyData.eqv (wD w) (wD z) = decide (w = z) := by
  show ((w.1 : Int) == (z.1 : Int) && ((w.2 : Int) == (z.2 : Int) && true)) = decide (w = z)
  rw [Bool.eq_iff_iff]
  simp [Prod.ext_iff]
  omega
theorem wD_shaped {w : Wt} : SeqAt.shaped (wD w) = true := rfl
theorem dp_w {q : Addr} (h : H q = some (.tup (wT w))) : Dp K H (.ref q) (wD w) := .tup (st_of h) (.cons (.int _) (.cons (.int _) .nil))
theorem eu_10 : EvU (tTup (tCons (tC (.int 1)) (tCons (tC (.int 0)) tNil))) σ H (wT (1, 0)) := eu_tup (vs := [.int 1, .int 0]) (ea_cons ev_c (ea_cons ev_c ea_nil)) (by show 2 ≤ 100000; decide)
theorem ev_w10 {q : Addr} (ha : Ev ta σ H (.ref q)) (hq : H q = some (.tup (wT w))) : Ev (tOp (rEqD K) ta (tTup (tCons (tC (.int 1)) (tCons (tC (.int 0)) tNil)))) σ H (.bl (decide (w = (1, 0)))) := fun H1 e Q k =>
  ha H1 e _ fun H2 e2 => eu_10 H2 (Ex.refl H2) _ fun r H3 n e3 hr => ⟨wD w, wD (1, 0), dp_w ((e.trans (e2.trans e3)) _ _ hq), dp_w hr, wD_shaped, wD_shaped, by rw [wD_eq]; exact k H3 (e2.trans e3)⟩
theorem pur_Hall_told (T : TxtK K) : ∀ vs H Q E, sp_Hall_told K vs H Q E → t_Hall_told K { nx := fun _ H' => Q .non H', rt := Q } (start N_Hall_told vs) H := by
  rintro vs H Q E ⟨A, s, Z, rfl, h, hn, k⟩
  show t_Hall_told K _ [some (.ref A.p), none] H
  unfold t_Hall_told
  refine s_asg (ev_notV (ev_at (i := 0) (g := fun i => .bl (s.busy i)) (ev_Hall_busy T h (ev_var rfl)) h.busy ev_c hn)) fun H1 e1 => ?_
  have h1 := h.mono e1
  obtain ⟨hv, hl, hw⟩ := id h1.held
  obtain ⟨q0, e0, z0, hq0⟩ := hw 0 hn
  refine s_retU (eu_tup (ea_cons (ev_andV (ev_var rfl) (fun _ => ev_eqI (ev_at (i := 0) (g := fun i => .int (s.due i)) (ev_Tree_due T h1 (ev_Hall_tree T h1 (ev_var rfl))) h1.due ev_c hn) ev_c))
    (ea_cons (ev_andV (ev_var rfl) (fun _ => ev_w10 (ev_is (ev_at (i := 0) (ev_Weights_held T h1 (ev_Hall_scales T h1 (ev_var rfl))) hl ev_c hn) e0) hq0))
    (ea_cons (ev_Ring_found T h1 (ev_Hall_ring T h1 (ev_var rfl))) ea_nil))) (by show 3 ≤ 100000; decide)) fun q H2 n e hq => k H2 q (e1.trans e) (fresh_back e1 n) hq
/-! ### a hall is made -/
theorem evr_make {Cn : Str} {sp : Sp} {tg : TA} {vs : List V} (hv : EvA tg σ H vs)
    (hs : ∀ H1, Ex H H1 → ∀ x dx, H1 x = none → H1 dx = none → dx ≠ x → ∀ Q : VK, (∀ H2, (∀ a o, H1 a = some o → H2 a = some o) → P (.ref x) H2 → Q .non H2) → sp (.ref x :: (vs ++ [])) (upd (upd H1 dx (.own x)) x (.ins (He.ga K Cn) dx [])) Q E0) :
    EvR (tMake (He.ga K Cn) sp [] E0 tg) σ H P := fun H1 e Q q => hv H1 e _ fun H2 e2 x dx hx hdx ne => hs H2 (e.trans e2) x dx hx hdx ne _ fun H3 k3 p3 => ⟨rfl, q _ H3 (e2.trans k3) p3⟩
theorem evr_mkTree {n : Nat} (hv : Ev ta σ H (.int n)) (hn : n ≤ 6) : EvR (tMake (He.ga K "Tree") (sp_Tree_init K) [] E0 (tCons ta tNil)) σ H (fun v H2 => ∃ x dx d o s, v = .ref x ∧ (∀ a ∈ [x, d, o, s], H a = none) ∧ [x, d, o, s].Nodup ∧
    H2 x = some (.ins (He.ga K "Tree") dx (treeF d o s)) ∧ H2 d = some (.lst (vec n fun _ => .int 0)) ∧ H2 o = some (.lst (vec n fun _ => .non)) ∧ H2 s = some (.dT [])) :=
  evr_make (ea_cons hv ea_nil) fun H1 e x dx hx hdx ne Q q => ⟨x, dx, n, rfl, hn, upd_same, fun H' d o s hd ho hs do_ ds os h1 h2 h3 h4 k => by
    have fr : ∀ {r : Addr}, upd (upd H1 dx (.own x)) x (.ins (He.ga K "Tree") dx []) r = none → H r = none ∧ r ≠ x := fun {r} hr => by
      have nx : r ≠ x := fun z => by rw [z, upd_same] at hr; cases hr
      rw [upd_ne nx] at hr
      exact ⟨fresh_back e (none_upd hr), nx⟩
    refine q H' (fun a o h => k a o ?_ (ne_of_none h hx)) ⟨x, dx, d, o, s, rfl, ?_, ?_, h1, h2, h3, h4⟩
    · rw [upd_ne (ne_of_none h hx), upd_ne (ne_of_none h hdx)]
      exact h
    · intro a ha
      simp only [List.mem_cons, List.not_mem_nil, or_false] at ha
      rcases ha with rfl | rfl | rfl | rfl
      · exact fresh_back e hx
      · exact (fr hd).1
      · exact (fr ho).1
      · exact (fr hs).1
    · simp only [List.nodup_cons, List.mem_cons, List.not_mem_nil, or_false, not_or, not_false_eq_true, List.nodup_nil, and_true]
      exact ⟨⟨(fr hd).2.symm, (fr ho).2.symm, (fr hs).2.symm⟩, ⟨do_, ds⟩, os⟩⟩
theorem evr_mkRing {n : Nat} (hv : Ev ta σ H (.int n)) (hn : n ≤ 6) : EvR (tMake (He.ga K "Ring") (sp_Ring_init K) [] E0 (tCons ta tNil)) σ H (fun v H2 => ∃ x dx c k, v = .ref x ∧ (∀ a ∈ [x, c, k], H a = none) ∧ [x, c, k].Nodup ∧
    H2 x = some (.ins (He.ga K "Ring") dx (ringF n c k 0 0 false false false)) ∧ H2 c = some (.lst (vec n fun _ => .int 0)) ∧ H2 k = some (.lst (vec n fun _ => colS false))) :=
  evr_make (ea_cons hv ea_nil) fun H1 e x dx hx hdx ne Q q => ⟨x, dx, n, rfl, hn, upd_same, fun H' d o hd ho do_ h1 h2 h3 k => by
    have fr : ∀ {r : Addr}, upd (upd H1 dx (.own x)) x (.ins (He.ga K "Ring") dx []) r = none → H r = none ∧ r ≠ x := fun {r} hr => by
      have nx : r ≠ x := fun z => by rw [z, upd_same] at hr; cases hr
      rw [upd_ne nx] at hr
      exact ⟨fresh_back e (none_upd hr), nx⟩
    refine q H' (fun a o h => k a o ?_ (ne_of_none h hx)) ⟨x, dx, d, o, rfl, ?_, ?_, h1, h2, h3⟩
    · rw [upd_ne (ne_of_none h hx), upd_ne (ne_of_none h hdx)]
      exact h
    · intro a ha
      simp only [List.mem_cons, List.not_mem_nil, or_false] at ha
      rcases ha with rfl | rfl | rfl
      · exact fresh_back e hx
      · exact (fr hd).1
      · exact (fr ho).1
    · simp only [List.nodup_cons, List.mem_cons, List.not_mem_nil, or_false, not_or, not_false_eq_true, List.nodup_nil, and_true]
      exact ⟨⟨(fr hd).2.symm, (fr ho).2.symm⟩, do_⟩⟩
theorem vec_nodup {n : Nat} {f : Nat → Addr} (h : ∀ i, i < n → ∀ j, j < n → f i = f j → i = j) : (vec n f).Nodup := map_nodup (fun x hx y hy e => h x (List.mem_range.mp hx) y (List.mem_range.mp hy) e) List.nodup_range
theorem mem_vec {α : Type} {n : Nat} {f : Nat → α} {a : α} : a ∈ vec n f ↔ ∃ i, i < n ∧ f i = a := by simp [vec]
theorem evr_mkWeights {n : Nat} (hv : Ev ta σ H (.int n)) (h0 : 0 < n) (hn : n ≤ 6) : EvR (tMake (He.ga K "Weights") (sp_Weights_init K) [] E0 (tCons ta tNil)) σ H (fun v H2 => ∃ x dx h w, ∃ hl : Nat → Addr, ∃ hv : Nat → V, v = .ref x ∧
    (∀ a ∈ [x, h, w] ++ vec n hl, H a = none) ∧ ([x, h, w] ++ vec n hl).Nodup ∧ H2 x = some (.ins (He.ga K "Weights") dx (scF h w)) ∧ H2 h = some (.lst (vec n hv)) ∧ H2 w = some (.lst (vec n fun i => .ref (hl i))) ∧
    (∀ i, i < n → H2 (hl i) = some (.lst [])) ∧ ∀ i, i < n → WV (fun q => H q = none) H2 (hv i) (if i = 0 then (1, 0) else (0, 0))) :=
  evr_make (ea_cons hv ea_nil) fun H1 e x dx hx hdx ne Q q => ⟨x, dx, n, rfl, h0, hn, upd_same, fun H' h w hl hv hh hw hhw hhl hhv h1 h2 h3 k => by
    have fr : ∀ {r : Addr}, upd (upd H1 dx (.own x)) x (.ins (He.ga K "Weights") dx []) r = none → H r = none ∧ r ≠ x := fun {r} hr => by
      have nx : r ≠ x := fun z => by rw [z, upd_same] at hr; cases hr
      rw [upd_ne nx] at hr
      exact ⟨fresh_back e (none_upd hr), nx⟩
    refine q H' (fun a o h => k a o ?_ (ne_of_none h hx)) ⟨x, dx, h, w, hl, hv, rfl, ?_, ?_, h1, h2, h3, fun i hi => (hhl i hi).2.2.2.1, fun i hi => let ⟨q, e1, z, e2⟩ := hhv i hi; ⟨q, e1, (fr z).1, e2⟩⟩
    · rw [upd_ne (ne_of_none h hx), upd_ne (ne_of_none h hdx)]
      exact h
    · intro a ha
      rcases List.mem_append.mp ha with ha | ha
      · simp only [List.mem_cons, List.not_mem_nil, or_false] at ha
        rcases ha with rfl | rfl | rfl
        · exact fresh_back e hx
        · exact (fr hh).1
        · exact (fr hw).1
      · obtain ⟨i, hi, rfl⟩ := mem_vec.mp ha
        exact (fr (hhl i hi).1).1
    · refine List.nodup_append.mpr ⟨?_, vec_nodup fun i hi j hj e => (hhl i hi).2.2.2.2 j hj e, fun a ha b hb => ?_⟩
      · simp only [List.nodup_cons, List.mem_cons, List.not_mem_nil, or_false, not_or, not_false_eq_true, List.nodup_nil, and_true]
        exact ⟨⟨(fr hh).2.symm, (fr hw).2.symm⟩, hhw⟩
      · obtain ⟨i, hi, rfl⟩ := mem_vec.mp hb
        simp only [List.mem_cons, List.not_mem_nil, or_false] at ha
        rcases ha with rfl | rfl | rfl
        · exact (fr (hhl i hi).1).2.symm
        · exact (hhl i hi).2.1.symm
        · exact (hhl i hi).2.2.1.symm⟩
theorem pur_Weights_init (T : TxtK K) : ∀ vs H Q E, sp_Weights_init K vs H Q E → t_Weights_init K { nx := fun _ H' => Q .non H', rt := Q } (start N_Weights_init vs) H := by
  rintro vs H Q E ⟨p, dx, n, rfl, n0, hn, hp, k⟩
  show t_Weights_init K _ [some (.ref p), some (.int n), none] H
  unfold t_Weights_init
  refine s_fldR (evr_comp (R := fun _ v H2 => WV (fun q => H q = none) H2 v (0, 0)) (ev_var rfl) hn (fun _ => rfl) (fun i v H1 H2 e h => h.keep fun a o q _ => e a o q)
    (fun i v H1 D l o hl h => ?_) (fun i H1 e hi => (evr_tup eu_00).imp ?_)) (fun _ _ => ev_var rfl) hp T.clWeights (T.aWeights _ (by decide +kernel)) (by show 0 < 1000; decide) ?_
  · obtain ⟨q, rfl, z, hq⟩ := h
    exact ⟨q, rfl, z, by rw [upd_ne (ne_of hq hl (by intro z; cases z))]; exact hq⟩
  · rintro _ H2 e2 ⟨q, rfl, nq, hq⟩
    exact ⟨q, rfl, fresh_back e nq, hq⟩
  rintro _ H2 H3 e2 e3 ⟨h, g, rfl, h0, hh, hg⟩
  have hp' : h ≠ p := (ne_of_none hp h0).symm
  rw [show (putF "held" (.ref h) [] : List (Str × V)) = ([("held", .ref h)] : List (Str × V)) by kernel_rfl]
  have b1 : KeB p H (upd H3 p (.ins (He.ga K "Weights") dx [("held", .ref h)])) := KeB.refl.put (e2.trans e3)
  have hG1 : upd H3 p (.ins (He.ga K "Weights") dx [("held", .ref h)]) h = some (.lst (vec n g)) := by
    rw [upd_ne hp']
    exact e3 _ _ hh
  have gG1 : ∀ i, i < n → WV (fun q => H q = none) (upd H3 p (.ins (He.ga K "Weights") dx [("held", .ref h)])) (g i) (0, 0) := fun i hi => by
    obtain ⟨q, e, nq, hq⟩ := hg i hi
    refine ⟨q, e, nq, ?_⟩
    rw [upd_ne (ne_of_none hp nq).symm]
    exact e3 _ _ hq
  have pG1 : upd H3 p (.ins (He.ga K "Weights") dx [("held", .ref h)]) p = some (.ins (He.ga K "Weights") dx [("held", .ref h)]) := upd_same
  generalize hg1 : upd H3 p (.ins (He.ga K "Weights") dx [("held", .ref h)]) = G1 at *
  -- self.held[0] = (1, 0)
  refine u_asg (u_evr (evr_tup eu_10) ?_)
  rintro _ H4 e4 ⟨q1, rfl, n1, hq1⟩
  refine u_sub (u_ev (ev_fld (v := .ref h) (ev_var rfl) (e4 _ _ pG1) T.clWeights (T.aWeights _ (by decide +kernel)) (by kernel_rfl)) fun H5 e5 => ?_)
  have e45 := e4.trans e5
  refine ⟨h, _, 0, 0, rfl, rfl, e45 _ _ hG1, by show ixN (vec n g).length ((0 : Nat) : Int) = some 0; exact ixN_nat (by rw [vec_len]; exact n0), ?_⟩
  rw [vec_set n0]
  have q1h : q1 ≠ h := (ne_of_none hG1 n1).symm
  have hG2 : upd H5 h (.lst (vec n (up g 0 (.ref q1)))) h = some (.lst (vec n (up g 0 (.ref q1)))) := upd_same
  have pG2 : upd H5 h (.lst (vec n (up g 0 (.ref q1)))) p = some (.ins (He.ga K "Weights") dx [("held", .ref h)]) := by
    rw [upd_ne hp'.symm]
    exact e45 _ _ pG1
  have gG2 : ∀ i, i < n → WV (fun q => H q = none) (upd H5 h (.lst (vec n (up g 0 (.ref q1))))) (up g 0 (.ref q1) i) (if i = 0 then (1, 0) else (0, 0)) := fun i hi => by
    by_cases e : i = 0
    · subst e
      rw [up_same, if_pos rfl]
      refine ⟨q1, rfl, b1.fresh pG1 n1, ?_⟩
      rw [upd_ne q1h]
      exact e5 _ _ hq1
    · rw [up_ne e, if_neg e]
      obtain ⟨q, eq, nq, hq⟩ := gG1 i hi
      refine ⟨q, eq, nq, ?_⟩
      rw [upd_ne (ne_of hq hG1 (by intro z; cases z))]
      exact e45 _ _ hq
  have b2 : KeB p H (upd H5 h (.lst (vec n (up g 0 (.ref q1))))) := fun a o ho na => by
    rw [upd_ne (ne_of_none ho h0)]
    exact e45 _ _ (b1 a o ho na)
  generalize hg2 : upd H5 h (.lst (vec n (up g 0 (.ref q1)))) = G2 at *
  refine s_fldR (evr_compL (ev_var rfl) hn (fun _ => rfl)) (fun _ _ => ev_var rfl) pG2 T.clWeights (T.aWeights _ (by decide +kernel)) (by show 1 < 1000; decide) ?_
  rintro _ H6 H7 e6 e7 ⟨w, f, rfl, w0, hw, hf⟩
  rw [show (putF "homeward" (.ref w) [("held", .ref h)] : List (Str × V)) = scF h w by kernel_rfl]
  have wp : w ≠ p := (ne_of_none pG2 w0).symm
  have e67 := e6.trans e7
  refine k _ h w f (up g 0 (.ref q1)) h0 (b2.fresh pG2 w0) (ne_of_none hG2 w0) (fun i hi => ?_) (fun i hi => ?_) upd_same ?_ ?_ (b2.put e67)
  · obtain ⟨f1, f2, f3, f4⟩ := hf i hi
    have fp : f i ≠ p := (ne_of_none pG2 f1).symm
    exact ⟨b2.fresh pG2 f1, (ne_of_none hG2 f1).symm, f2, by rw [upd_ne fp]; exact e7 _ _ f3, f4⟩
  · obtain ⟨q, eq, nq, hq⟩ := gG2 i hi
    refine ⟨q, eq, nq, ?_⟩
    rw [upd_ne (ne_of_none hp nq).symm]
    exact e67 _ _ hq
  · rw [upd_ne hp']
    exact e67 _ _ hG2
  · rw [upd_ne wp]
    exact e7 _ _ hw
end
end QH

/-! What the program's defs do: a hall is made. -/
namespace QH
open PySem PySem.Spec PyProof.Rows L2 Evl
def roleOf (l hls : List Addr) (a : Addr) : Nat := if a ∈ hls then 14 + hls.idxOf a else if a ∈ l then l.idxOf a + 1 else 0
theorem idxOf_get : ∀ {l : List Addr} {i : Nat} {a : Addr}, l.Nodup → l[i]? = some a → l.idxOf a = i
  | [], i, a, _, h => by simp at h
  | b :: r, 0, a, _, h => by
    have : b = a := Option.some.inj h
    subst this
    simp
  | b :: r, i + 1, a, hn, h => by
    obtain ⟨h1, h2⟩ := List.nodup_cons.mp hn
    have hm : a ∈ r := List.mem_of_getElem? (i := i) h
    have ne : b ≠ a := fun e => h1 (e ▸ hm)
    rw [List.idxOf_cons]
    have : (b == a) = false := by simpa using ne
    rw [this]
    show r.idxOf a + 1 = i + 1
    rw [idxOf_get h2 h]
theorem roleOf_l {l hls : List Addr} {i : Nat} {a : Addr} (hd : ∀ a ∈ l, a ∉ hls) (hn : l.Nodup) (h : l[i]? = some a) : roleOf l hls a = i + 1 := by
  have hm : a ∈ l := List.mem_of_getElem? h
  unfold roleOf
  rw [if_neg (hd a hm), if_pos hm, idxOf_get hn h]
theorem roleOf_hl {l hls : List Addr} {i : Nat} {a : Addr} (hn : hls.Nodup) (h : hls[i]? = some a) : roleOf l hls a = 14 + i := by
  have hm : a ∈ hls := List.mem_of_getElem? h
  unfold roleOf
  rw [if_pos hm, idxOf_get hn h]
theorem roleOf_0 {l hls : List Addr} {a : Addr} (h1 : a ∉ hls) (h2 : a ∉ l) : roleOf l hls a = 0 := by
  unfold roleOf
  rw [if_neg h1, if_neg h2]
theorem roleOf_n {l hls : List Addr} {a : Addr} (h : roleOf l hls a ≠ 0) : a ∈ hls ∨ a ∈ l := by
  by_cases h1 : a ∈ hls
  · exact Or.inl h1
  · by_cases h2 : a ∈ l
    · exact Or.inr h2
    · exact absurd (roleOf_0 h1 h2) h
theorem nodup_grow {G : Hp} {l1 l2 : List Addr} (h1 : l1.Nodup) (h2 : l2.Nodup) (a1 : ∀ a ∈ l1, ∃ o, G a = some o) (a2 : ∀ a ∈ l2, G a = none) : (l1 ++ l2).Nodup :=
  List.nodup_append.mpr ⟨h1, h2, fun a ha b hb e => by
    obtain ⟨o, ho⟩ := a1 a ha
    rw [e, a2 b hb] at ho
    cases ho⟩
section
variable {K : PySem.W.Frag} {Z : Addr → Prop} {σ : L2.St} {H H' : Hp} {ta tb tc te tv : TE}
theorem st_keep {p a : Addr} {G H2 H3 : Hp} {o u : HO} (h : G a = some o) (n : a ≠ p) (e2 : Ex G H2) (e3 : Ex H2 H3) : upd H3 p u a = some o := by
  rw [upd_ne n]
  exact (e2.trans e3) _ _ h
theorem pur_Hall_init (T : TxtK K) : ∀ vs H Q E, sp_Hall_init K vs H Q E → t_Hall_init K { nx := fun _ H' => Q .non H', rt := Q } (start N_Hall_init vs) H := by
  rintro vs H Q E ⟨p, dx, n, Zc, rfl, n0, hn, hp, hZ, k⟩
  show t_Hall_init K _ [some (.ref p), some (.int n), none] H
  unfold t_Hall_init
  refine s_fldN (fs' := [("many", .int n)]) (ev_var rfl) (ev_var rfl) hp T.clHall (T.aHall _ (by decide +kernel)) (by show 0 < 1000; decide) (by kernel_rfl) fun H1 e1 => ?_
  have b1 : KeB p H (upd H1 p (.ins (He.ga K "Hall") dx [("many", .int n)])) := KeB.refl.put e1
  have p1 : upd H1 p (.ins (He.ga K "Hall") dx [("many", .int n)]) p = some (.ins (He.ga K "Hall") dx [("many", .int n)]) := upd_same
  generalize hG1 : upd H1 p (.ins (He.ga K "Hall") dx [("many", .int n)]) = G1 at *
  -- busy
  refine s_fldR (evr_list (el_comp (g := fun i => .bl (decide (i = 0))) (ev_var rfl) hn (fun _ => rfl) (fun i H1 _ _ => ev_is (ev_eqI (ev_var rfl) ev_c) (by congr 1; simp)))) (fun _ _ => ev_var rfl) p1 T.clHall (T.aHall _ (by decide +kernel)) (by show 1 < 1000; decide) ?_
  rintro _ H2 H3 e2 e3 ⟨b, rfl, b0, hb⟩
  have bp : b ≠ p := (ne_of_none p1 b0).symm
  rw [show (putF "busy" (.ref b) [("many", .int n)] : List (Str × V)) = ([("many", .int n), ("busy", .ref b)] : List (Str × V)) by kernel_rfl]
  have b2 : KeB p H (upd H3 p (.ins (He.ga K "Hall") dx [("many", .int n), ("busy", .ref b)])) := b1.put (e2.trans e3)
  have p2 : upd H3 p (.ins (He.ga K "Hall") dx [("many", .int n), ("busy", .ref b)]) p = some (.ins (He.ga K "Hall") dx [("many", .int n), ("busy", .ref b)]) := upd_same
  have hb2 : upd H3 p (.ins (He.ga K "Hall") dx [("many", .int n), ("busy", .ref b)]) b = _ := st_keep hb bp (Ex.refl H2) e3
  have l2 : ∀ a ∈ [p, b], ∃ o, upd H3 p (.ins (He.ga K "Hall") dx [("many", .int n), ("busy", .ref b)]) a = some o := fun a ha => by
    simp only [List.mem_cons, List.not_mem_nil, or_false] at ha
    rcases ha with rfl | rfl
    · exact ⟨_, p2⟩
    · exact ⟨_, hb2⟩
  have nd2 : ([p] ++ [b]).Nodup := nodup_grow (G := G1) (by simp) (by simp) (fun a ha => by cases List.mem_singleton.mp ha; exact ⟨_, p1⟩) (fun a ha => by rw [List.mem_singleton.mp ha]; exact b0)
  have f2 : H b = none := b1.fresh p1 b0
  generalize hG2 : upd H3 p (.ins (He.ga K "Hall") dx [("many", .int n), ("busy", .ref b)]) = G2 at *
  -- rows
  refine s_fldR evr_dnew (fun _ _ => ev_var rfl) p2 T.clHall (T.aHall _ (by decide +kernel)) (by show 2 < 1000; decide) ?_
  rintro _ H4 H5 e4 e5 ⟨r, rfl, r0, hr⟩
  have rp : r ≠ p := (ne_of_none p2 r0).symm
  rw [show (putF "rows" (.ref r) [("many", .int n), ("busy", .ref b)] : List (Str × V)) = ([("many", .int n), ("busy", .ref b), ("rows", .ref r)] : List (Str × V)) by kernel_rfl]
  have b3 : KeB p H (upd H5 p (.ins (He.ga K "Hall") dx [("many", .int n), ("busy", .ref b), ("rows", .ref r)])) := b2.put (e4.trans e5)
  have p3 : upd H5 p (.ins (He.ga K "Hall") dx [("many", .int n), ("busy", .ref b), ("rows", .ref r)]) p = some (.ins (He.ga K "Hall") dx [("many", .int n), ("busy", .ref b), ("rows", .ref r)]) := upd_same
  have hb3 : upd H5 p (.ins (He.ga K "Hall") dx [("many", .int n), ("busy", .ref b), ("rows", .ref r)]) b = _ := st_keep hb2 bp e4 e5
  have hr3 : upd H5 p (.ins (He.ga K "Hall") dx [("many", .int n), ("busy", .ref b), ("rows", .ref r)]) r = _ := st_keep hr rp (Ex.refl H4) e5
  have nd3 : (([p] ++ [b]) ++ [r]).Nodup := nodup_grow (G := G2) nd2 (by simp) l2 (fun a ha => by rw [List.mem_singleton.mp ha]; exact r0)
  have f3 : H r = none := b2.fresh p2 r0
  generalize hG3 : upd H5 p (.ins (He.ga K "Hall") dx [("many", .int n), ("busy", .ref b), ("rows", .ref r)]) = G3 at *
  have l3 : ∀ a ∈ ([p] ++ [b]) ++ [r], ∃ o, G3 a = some o := fun a ha => by
    simp only [List.mem_append, List.mem_cons, List.not_mem_nil, or_false] at ha
    rcases ha with (rfl | rfl) | rfl
    · exact ⟨_, p3⟩
    · exact ⟨_, hb3⟩
    · exact ⟨_, hr3⟩
  -- tree
  refine s_fldR (evr_mkTree (ev_var rfl) hn) (fun _ _ => ev_var rfl) p3 T.clHall (T.aHall _ (by decide +kernel)) (by show 3 < 1000; decide) ?_
  rintro _ H6 H7 e6 e7 ⟨t, tdx, d, o, s, rfl, t0, tn, ht, hd, ho, hs⟩
  have np : ∀ {G : Hp} {u : HO} {l : List Addr}, G p = some u → (∀ a ∈ l, G a = none) → ∀ a ∈ l, a ≠ p := fun hp hl a ha e => by rw [← e, hl a ha] at hp; cases hp
  have tp := np p3 t0
  rw [show (putF "tree" (.ref t) [("many", .int n), ("busy", .ref b), ("rows", .ref r)] : List (Str × V)) = ([("many", .int n), ("busy", .ref b), ("rows", .ref r), ("tree", .ref t)] : List (Str × V)) by kernel_rfl]
  have b4 := b3.put (o := .ins (He.ga K "Hall") dx [("many", .int n), ("busy", .ref b), ("rows", .ref r), ("tree", .ref t)]) (e6.trans e7)
  have p4 : upd H7 p (.ins (He.ga K "Hall") dx [("many", .int n), ("busy", .ref b), ("rows", .ref r), ("tree", .ref t)]) p = some (.ins (He.ga K "Hall") dx [("many", .int n), ("busy", .ref b), ("rows", .ref r), ("tree", .ref t)]) := upd_same
  have hb4 : upd H7 p (.ins (He.ga K "Hall") dx [("many", .int n), ("busy", .ref b), ("rows", .ref r), ("tree", .ref t)]) b = _ := st_keep hb3 bp e6 e7
  have hr4 : upd H7 p (.ins (He.ga K "Hall") dx [("many", .int n), ("busy", .ref b), ("rows", .ref r), ("tree", .ref t)]) r = _ := st_keep hr3 rp e6 e7
  have ht4 : upd H7 p (.ins (He.ga K "Hall") dx [("many", .int n), ("busy", .ref b), ("rows", .ref r), ("tree", .ref t)]) t = _ := st_keep ht (tp t (by simp)) (Ex.refl H6) e7
  have hd4 : upd H7 p (.ins (He.ga K "Hall") dx [("many", .int n), ("busy", .ref b), ("rows", .ref r), ("tree", .ref t)]) d = _ := st_keep hd (tp d (by simp)) (Ex.refl H6) e7
  have ho4 : upd H7 p (.ins (He.ga K "Hall") dx [("many", .int n), ("busy", .ref b), ("rows", .ref r), ("tree", .ref t)]) o = _ := st_keep ho (tp o (by simp)) (Ex.refl H6) e7
  have hs4 : upd H7 p (.ins (He.ga K "Hall") dx [("many", .int n), ("busy", .ref b), ("rows", .ref r), ("tree", .ref t)]) s = _ := st_keep hs (tp s (by simp)) (Ex.refl H6) e7
  have nd4 : ((([p] ++ [b]) ++ [r]) ++ [t, d, o, s]).Nodup := nodup_grow (G := G3) nd3 tn l3 t0
  have f4 : ∀ a ∈ [t, d, o, s], H a = none := fun a ha => b3.fresh p3 (t0 a ha)
  generalize hG4 : upd H7 p (.ins (He.ga K "Hall") dx [("many", .int n), ("busy", .ref b), ("rows", .ref r), ("tree", .ref t)]) = G4 at *
  have l4 : ∀ a ∈ (([p] ++ [b]) ++ [r]) ++ [t, d, o, s], ∃ o, G4 a = some o := fun a ha => by
    simp only [List.mem_append, List.mem_cons, List.not_mem_nil, or_false] at ha
    rcases ha with ((rfl | rfl) | rfl) | rfl | rfl | rfl | rfl
    · exact ⟨_, p4⟩
    · exact ⟨_, hb4⟩
    · exact ⟨_, hr4⟩
    · exact ⟨_, ht4⟩
    · exact ⟨_, hd4⟩
    · exact ⟨_, ho4⟩
    · exact ⟨_, hs4⟩
  -- scales
  refine s_fldR (evr_mkWeights (ev_var rfl) n0 hn) (fun _ _ => ev_var rfl) p4 T.clHall (T.aHall _ (by decide +kernel)) (by show 4 < 1000; decide) ?_
  rintro _ H8 H9 e8 e9 ⟨c, cdx, h, w, hl, hv, rfl, c0, cn, hc, hh, hw, hhl, hhv⟩
  have cp := np p4 c0
  rw [show (putF "scales" (.ref c) [("many", .int n), ("busy", .ref b), ("rows", .ref r), ("tree", .ref t)] : List (Str × V)) = ([("many", .int n), ("busy", .ref b), ("rows", .ref r), ("tree", .ref t), ("scales", .ref c)] : List (Str × V)) by kernel_rfl]
  have b5 := b4.put (o := .ins (He.ga K "Hall") dx [("many", .int n), ("busy", .ref b), ("rows", .ref r), ("tree", .ref t), ("scales", .ref c)]) (e8.trans e9)
  have p5 : upd H9 p (.ins (He.ga K "Hall") dx [("many", .int n), ("busy", .ref b), ("rows", .ref r), ("tree", .ref t), ("scales", .ref c)]) p = some (.ins (He.ga K "Hall") dx [("many", .int n), ("busy", .ref b), ("rows", .ref r), ("tree", .ref t), ("scales", .ref c)]) := upd_same
  have ke : ∀ {a : Addr} {u : HO}, G4 a = some u → a ≠ p → upd H9 p (.ins (He.ga K "Hall") dx [("many", .int n), ("busy", .ref b), ("rows", .ref r), ("tree", .ref t), ("scales", .ref c)]) a = some u := fun h1 h2 => st_keep h1 h2 e8 e9
  have kn : ∀ {a : Addr} {u : HO}, H8 a = some u → a ≠ p → upd H9 p (.ins (He.ga K "Hall") dx [("many", .int n), ("busy", .ref b), ("rows", .ref r), ("tree", .ref t), ("scales", .ref c)]) a = some u := fun h1 h2 => st_keep h1 h2 (Ex.refl H8) e9
  have hb5 := ke hb4 bp
  have hr5 := ke hr4 rp
  have ht5 := ke ht4 (tp t (by simp))
  have hd5 := ke hd4 (tp d (by simp))
  have ho5 := ke ho4 (tp o (by simp))
  have hs5 := ke hs4 (tp s (by simp))
  have hc5 := kn hc (cp c (by simp))
  have hh5 := kn hh (cp h (by simp))
  have hw5 := kn hw (cp w (by simp))
  have hhl5 : ∀ i, i < n → _ := fun i hi => kn (hhl i hi) (cp (hl i) (by simp only [List.mem_append, mem_vec]; exact Or.inr ⟨i, hi, rfl⟩))
  have hhv5 : ∀ i, i < n → WV (fun q => H q = none) _ (hv i) (if i = 0 then (1, 0) else (0, 0)) := fun i hi => by
    obtain ⟨q, e, z, hq⟩ := hhv i hi
    have qp : q ≠ p := fun z => by
      have := e8 _ _ p4
      rw [z, this] at hq
      cases hq
    exact ⟨q, e, b4.fresh p4 z, kn hq qp⟩
  have nd5 : (((([p] ++ [b]) ++ [r]) ++ [t, d, o, s]) ++ ([c, h, w] ++ vec n hl)).Nodup := nodup_grow (G := G4) nd4 cn l4 c0
  have f5 : ∀ a ∈ [c, h, w] ++ vec n hl, H a = none := fun a ha => b4.fresh p4 (c0 a ha)
  generalize hG5 : upd H9 p (.ins (He.ga K "Hall") dx [("many", .int n), ("busy", .ref b), ("rows", .ref r), ("tree", .ref t), ("scales", .ref c)]) = G5 at *
  have l5 : ∀ a ∈ ((([p] ++ [b]) ++ [r]) ++ [t, d, o, s]) ++ ([c, h, w] ++ vec n hl), ∃ o, G5 a = some o := fun a ha => by
    simp only [List.mem_append, List.mem_cons, List.not_mem_nil, or_false, mem_vec] at ha
    rcases ha with (((rfl | rfl) | rfl) | rfl | rfl | rfl | rfl) | (rfl | rfl | rfl) | ⟨i, hi, rfl⟩
    · exact ⟨_, p5⟩
    · exact ⟨_, hb5⟩
    · exact ⟨_, hr5⟩
    · exact ⟨_, ht5⟩
    · exact ⟨_, hd5⟩
    · exact ⟨_, ho5⟩
    · exact ⟨_, hs5⟩
    · exact ⟨_, hc5⟩
    · exact ⟨_, hh5⟩
    · exact ⟨_, hw5⟩
    · exact ⟨_, hhl5 i hi⟩
  -- ring
  refine s_fldR (evr_mkRing (ev_var rfl) hn) (fun _ _ => ev_var rfl) p5 T.clHall (T.aHall _ (by decide +kernel)) (by show 5 < 1000; decide) ?_
  rintro _ H10 H11 e10 e11 ⟨g, gdx, x, y, rfl, g0, gn, hg, hx, hy⟩
  have gp := np p5 g0
  rw [show (putF "ring" (.ref g) [("many", .int n), ("busy", .ref b), ("rows", .ref r), ("tree", .ref t), ("scales", .ref c)] : List (Str × V)) = hallF n b r t c g by kernel_rfl]
  have b6 := b5.put (o := .ins (He.ga K "Hall") dx (hallF n b r t c g)) (e10.trans e11)
  have p6 : upd H11 p (.ins (He.ga K "Hall") dx (hallF n b r t c g)) p = some (.ins (He.ga K "Hall") dx (hallF n b r t c g)) := upd_same
  have ke : ∀ {a : Addr} {u : HO}, G5 a = some u → a ≠ p → upd H11 p (.ins (He.ga K "Hall") dx (hallF n b r t c g)) a = some u := fun h1 h2 => st_keep h1 h2 e10 e11
  have kn : ∀ {a : Addr} {u : HO}, H10 a = some u → a ≠ p → upd H11 p (.ins (He.ga K "Hall") dx (hallF n b r t c g)) a = some u := fun h1 h2 => st_keep h1 h2 (Ex.refl H10) e11
  have hb6 := ke hb5 bp
  have hr6 := ke hr5 rp
  have ht6 := ke ht5 (tp t (by simp))
  have hd6 := ke hd5 (tp d (by simp))
  have ho6 := ke ho5 (tp o (by simp))
  have hs6 := ke hs5 (tp s (by simp))
  have hc6 := ke hc5 (cp c (by simp))
  have hh6 := ke hh5 (cp h (by simp))
  have hw6 := ke hw5 (cp w (by simp))
  have hhl6 : ∀ i, i < n → _ := fun i hi => ke (hhl5 i hi) (cp (hl i) (by simp only [List.mem_append, mem_vec]; exact Or.inr ⟨i, hi, rfl⟩))
  have hhv6 : ∀ i, i < n → WV (fun q => H q = none) _ (hv i) (if i = 0 then (1, 0) else (0, 0)) := fun i hi => by
    obtain ⟨q, e, z, hq⟩ := hhv5 i hi
    have hq2 : G5 q = some (.tup (wT (if i = 0 then (1, 0) else (0, 0)))) := hq
    have qp : q ≠ p := fun z => by
      rw [z, p5] at hq2
      cases hq2
    exact ⟨q, e, z, ke hq2 qp⟩
  have hg6 := kn hg (gp g (by simp))
  have hx6 := kn hx (gp x (by simp))
  have hy6 := kn hy (gp y (by simp))
  have nd6 : ((((([p] ++ [b]) ++ [r]) ++ [t, d, o, s]) ++ ([c, h, w] ++ vec n hl)) ++ [g, x, y]).Nodup := nodup_grow (G := G5) nd5 gn l5 g0
  have f6 : ∀ a ∈ [g, x, y], H a = none := fun a ha => b5.fresh p5 (g0 a ha)
  generalize hG6 : upd H11 p (.ins (He.ga K "Hall") dx (hallF n b r t c g)) = G6 at *
  have nd6' : ([p, b, r, t, d, o, s, c, h, w] ++ (vec n hl ++ [g, x, y])).Nodup := by
    have e : ((((([p] ++ [b]) ++ [r]) ++ [t, d, o, s]) ++ ([c, h, w] ++ vec n hl)) ++ [g, x, y]) = ([p, b, r, t, d, o, s, c, h, w] ++ (vec n hl ++ [g, x, y])) := by simp
    rw [← e]
    exact nd6
  have ndL : ([p, b, r, t, d, o, s, c, h, w] ++ [g, x, y]).Nodup := nd6'.sublist (List.Sublist.append_left (List.sublist_append_right _ _) _)
  obtain ⟨n1, n2, n3⟩ := List.nodup_append.mp nd6'
  obtain ⟨n4, n5, n6⟩ := List.nodup_append.mp n2
  have dis : ∀ a ∈ [p, b, r, t, d, o, s, c, h, w] ++ [g, x, y], a ∉ vec n hl := fun a ha hm => by
    rcases List.mem_append.mp ha with q | q
    · exact n3 a q a (List.mem_append_left _ hm) rfl
    · exact n6 a hm a q rfl
  have rl : ∀ {i : Nat} {a : Addr}, ([p, b, r, t, d, o, s, c, h, w] ++ [g, x, y])[i]? = some a → roleOf ([p, b, r, t, d, o, s, c, h, w] ++ [g, x, y]) (vec n hl) a = i + 1 := fun h => roleOf_l dis ndL h
  have notTup : ∀ a, a ∈ vec n hl ∨ a ∈ [p, b, r, t, d, o, s, c, h, w] ++ [g, x, y] → ∀ us, G6 a ≠ some (.tup us) := fun a ha us e => by
    rcases ha with ha | ha
    · obtain ⟨i, hi, rfl⟩ := mem_vec.mp ha
      rw [hhl6 i hi] at e
      cases e
    · simp only [List.mem_append, List.mem_cons, List.not_mem_nil, or_false] at ha
      rcases ha with (rfl | rfl | rfl | rfl | rfl | rfl | rfl | rfl | rfl | rfl) | rfl | rfl | rfl
      · rw [p6] at e; cases e
      · rw [hb6] at e; cases e
      · rw [hr6] at e; cases e
      · rw [ht6] at e; cases e
      · rw [hd6] at e; cases e
      · rw [ho6] at e; cases e
      · rw [hs6] at e; cases e
      · rw [hc6] at e; cases e
      · rw [hh6] at e; cases e
      · rw [hw6] at e; cases e
      · rw [hg6] at e; cases e
      · rw [hx6] at e; cases e
      · rw [hy6] at e; cases e
  refine k G6 { p := p, busy := b, rows := r, tree := t, due := d, over := o, slips := s, sc := c, held := h, hw := w, ring := g, cnt := x, col := y, dx := dx, tdx := tdx, sdx := cdx, rdx := gdx, hl := hl, R := roleOf ([p, b, r, t, d, o, s, c, h, w] ++ [g, x, y]) (vec n hl) } rfl ?_ ?_ b6
  · refine {
      ok := ⟨rl (i := 0) rfl, rl (i := 1) rfl, rl (i := 2) rfl, rl (i := 3) rfl, rl (i := 4) rfl, rl (i := 5) rfl, rl (i := 6) rfl, rl (i := 7) rfl, rl (i := 8) rfl, rl (i := 9) rfl, rl (i := 10) rfl, rl (i := 11) rfl, rl (i := 12) rfl, fun i hi => roleOf_hl n4 (vec_get hi), fun a ha => (roleOf_n ha).elim (fun m => Or.inr (let ⟨i, hi, e⟩ := mem_vec.mp m; ⟨i, hi, e.symm⟩)) Or.inl⟩
      zr := fun a z => z.1
      zf := fun a z => ⟨?zf, hZ a (b6.fresh p6 z)⟩
      p := p6, busy := hb6, rows := ⟨[], hr6, Keyed.nil, fun i j _ _ => rfl⟩, tree := ht6, due := hd6, over := ho6, slips := ⟨[], hs6, Keyed.nil, fun i j _ _ => rfl⟩, sc := hc6
      held := ⟨hv, hh6, fun i hi => ?held⟩
      hw := hw6, hl := fun i hi => ⟨[], hhl6 i hi, trivial⟩, ring := hg6, cnt := hx6, col := hy6 }
    case zf =>
      by_cases q : roleOf ([p, b, r, t, d, o, s, c, h, w] ++ [g, x, y]) (vec n hl) a = 0
      · exact q
      · exfalso
        rcases roleOf_n q with ha | ha
        · obtain ⟨i, hi, rfl⟩ := mem_vec.mp ha
          rw [hhl6 i hi] at z
          cases z
        · simp only [List.mem_append, List.mem_cons, List.not_mem_nil, or_false] at ha
          rcases ha with (rfl | rfl | rfl | rfl | rfl | rfl | rfl | rfl | rfl | rfl) | rfl | rfl | rfl
          · rw [p6] at z; cases z
          · rw [hb6] at z; cases z
          · rw [hr6] at z; cases z
          · rw [ht6] at z; cases z
          · rw [hd6] at z; cases z
          · rw [ho6] at z; cases z
          · rw [hs6] at z; cases z
          · rw [hc6] at z; cases z
          · rw [hh6] at z; cases z
          · rw [hw6] at z; cases z
          · rw [hg6] at z; cases z
          · rw [hx6] at z; cases z
          · rw [hy6] at z; cases z
    case held =>
      obtain ⟨q, e, z, hq⟩ := hhv6 i hi
      refine ⟨q, e, ⟨?_, hZ q z⟩, hq⟩
      by_cases m : roleOf ([p, b, r, t, d, o, s, c, h, w] ++ [g, x, y]) (vec n hl) q = 0
      · exact m
      · exact absurd hq (notTup q (roleOf_n m) _)
  · intro a ha
    rcases roleOf_n ha with ha | ha
    · exact Or.inr (f5 a (List.mem_append_right _ ha))
    · simp only [List.mem_append, List.mem_cons, List.not_mem_nil, or_false] at ha
      rcases ha with (rfl | rfl | rfl | rfl | rfl | rfl | rfl | rfl | rfl | rfl) | rfl | rfl | rfl
      · exact Or.inl rfl
      · exact Or.inr f2
      · exact Or.inr f3
      · exact Or.inr (f4 _ (by simp))
      · exact Or.inr (f4 _ (by simp))
      · exact Or.inr (f4 _ (by simp))
      · exact Or.inr (f4 _ (by simp))
      · exact Or.inr (f5 _ (by simp))
      · exact Or.inr (f5 _ (by simp))
      · exact Or.inr (f5 _ (by simp))
      · exact Or.inr (f6 _ (by simp))
      · exact Or.inr (f6 _ (by simp))
      · exact Or.inr (f6 _ (by simp))
end
end QH

/-! Comprehensions, told item by item. -/
namespace QH
open PySem PySem.Spec PyProof.Rows L2 Evl
/-- a telling that stands while the heap grows and lists change -/
structure Stb {α : Type} (R : α → V → Hp → Prop) : Prop where
  mono : ∀ {x v H1 H2}, Ex H1 H2 → R x v H1 → R x v H2
  lst : ∀ {x v H1 D l o}, H1 D = some (.lst l) → R x v H1 → R x v (upd H1 D o)
section
variable {α : Type} {R : α → V → Hp → Prop} {H H' : Hp}
theorem Rels.imp {R' : α → V → Hp → Prop} : ∀ {vs : List V} {xs : List α}, Rels R H vs xs → (∀ x v, R x v H → R' x v H') → Rels R' H' vs xs
  | [], [], _, _ => trivial
  | _ :: _, _ :: _, h, k => ⟨k _ _ h.1, Rels.imp h.2 k⟩
  | [], _ :: _, h, _ => h.elim
  | _ :: _, [], h, _ => h.elim
theorem Rels.mono (S : Stb R) (e : Ex H H') {vs : List V} {xs : List α} (h : Rels R H vs xs) : Rels R H' vs xs := h.imp fun _ _ r => S.mono e r
theorem Rels.len : ∀ {vs : List V} {xs : List α}, Rels R H vs xs → vs.length = xs.length
  | [], [], _ => rfl
  | _ :: _, _ :: _, h => congrArg Nat.succ (Rels.len h.2)
  | [], _ :: _, h => h.elim
  | _ :: _, [], h => h.elim
theorem Rels.snoc : ∀ {vs : List V} {xs : List α} {v : V} {x : α}, Rels R H vs xs → R x v H → Rels R H (vs ++ [v]) (xs ++ [x])
  | [], [], _, _, _, hv => ⟨hv, trivial⟩
  | _ :: _, _ :: _, _, _, h, hv => ⟨h.1, Rels.snoc h.2 hv⟩
  | [], _ :: _, _, _, h, _ => h.elim
  | _ :: _, [], _, _, h, _ => h.elim
theorem Rels.app : ∀ {vs ws : List V} {xs ys : List α}, Rels R H vs xs → Rels R H ws ys → Rels R H (vs ++ ws) (xs ++ ys)
  | [], _, [], _, _, h => h
  | _ :: _, _, _ :: _, _, h, hv => ⟨h.1, Rels.app h.2 hv⟩
  | [], _, _ :: _, _, h, _ => h.elim
  | _ :: _, _, [], _, h, _ => h.elim
theorem Rels.get : ∀ {vs : List V} {xs : List α} {i : Nat} {x : α}, Rels R H vs xs → xs[i]? = some x → ∃ v, vs[i]? = some v ∧ R x v H
  | [], [], i, _, _, e => by simp at e
  | v :: _, x' :: _, 0, x, h, e => by
    have : x' = x := Option.some.inj e
    subst this
    exact ⟨v, rfl, h.1⟩
  | _ :: _, _ :: _, i + 1, x, h, e => Rels.get (i := i) h.2 e
  | [], _ :: _, _, _, h, _ => h.elim
  | _ :: _, [], _, _, h, _ => h.elim
theorem Rels.back : ∀ {vs : List V} {xs : List α} {i : Nat} {v : V}, Rels R H vs xs → vs[i]? = some v → ∃ x, xs[i]? = some x ∧ R x v H
  | [], [], i, _, _, e => by simp at e
  | v' :: _, x :: _, 0, v, h, e => by
    have : v' = v := Option.some.inj e
    subst this
    exact ⟨x, rfl, h.1⟩
  | _ :: _, _ :: _, i + 1, v, h, e => Rels.back (i := i) h.2 e
  | [], _ :: _, _, _, h, _ => h.elim
  | _ :: _, [], _, _, h, _ => h.elim
theorem stb_tup {f : α → List V} : Stb (TupR f) where
  mono := fun e ⟨q, h1, h2⟩ => ⟨q, h1, e _ _ h2⟩
  lst := fun hD ⟨q, h1, h2⟩ => ⟨q, h1, by rw [upd_ne (ne_of h2 hD (by intro z; cases z))]; exact h2⟩
/-- the value itself -/
def ValR (f : α → V) : α → V → Hp → Prop := fun x v _ => v = f x
theorem stb_val {f : α → V} : Stb (ValR f) := ⟨fun _ h => h, fun _ h => h⟩
theorem rels_val {f : α → V} : ∀ {vs : List V} {xs : List α}, Rels (ValR f) H vs xs → vs = xs.map f
  | [], [], _ => rfl
  | v :: vs, x :: xs, h => by rw [List.map_cons, ← rels_val h.2, ← (show v = f x from h.1)]
  | [], _ :: _, h => h.elim
  | _ :: _, [], h => h.elim
theorem stb_wv {Z : Addr → Prop} : Stb (fun (w : Wt) v H => WV Z H v w) where
  mono := fun e h => h.keep fun a o q _ => e a o q
  lst := fun hD h => by
    obtain ⟨q, h1, z, h2⟩ := h
    exact ⟨q, h1, z, by rw [upd_ne (ne_of h2 hD (by intro z; cases z))]; exact h2⟩
end
section
variable {α : Type} {K : PySem.W.Frag} {R : α → V → Hp → Prop} {σ : L2.St} {H : Hp} {ta te tl : TE} {t : TT}
/-- behind i turns -/
def PvC (R : α → V → Hp → Prop) (H1 : Hp) (D : Addr) (b : Nat → Bool) (x : Nat → α) (i : Nat) (H' : Hp) : Prop :=
  H1 D = none ∧ Ex H1 H' ∧ ∃ us, H' D = some (.lst us) ∧ us.length ≤ i ∧ Rels R H' us (((List.range i).filter b).map x)
/-- the new list -/
def CompR (R : α → V → Hp → Prop) (H : Hp) (xs : List α) : V → Hp → Prop := fun v H2 => ∃ q us, v = .ref q ∧ H q = none ∧ H2 q = some (.lst us) ∧ Rels R H2 us xs
theorem pvc_turn {σ2 : L2.St} {H1 H' : Hp} {D : Addr} {b : Nat → Bool} {x : Nat → α} {i : Nat} (S : Stb R) (p : PvC R H1 D b x i H') (hi : i < 50000) (ht : EvT t σ2 H1 (b i)) (he : b i = true → EvR te σ2 H1 (R (x i))) :
    t σ2 H' fun c H3 => if c = true then te σ2 H3 fun y H4 => ∃ acc, H4 D = some (.lst acc) ∧ acc.length < sizeLine ∧ PvC R H1 D b x (i + 1) (upd H4 D (.lst (acc ++ [y]))) else PvC R H1 D b x (i + 1) H3 := by
  obtain ⟨p1, p2, us, p3, p4, p5⟩ := p
  refine ht H' p2 _ fun H3 e3 => ?_
  cases hf : b i with
  | true =>
    rw [if_pos rfl]
    refine he hf H3 (p2.trans e3) _ fun y H4 e4 ry => ?_
    have p3' := e4 _ _ (e3 _ _ p3)
    refine ⟨us, p3', sz_lt (by omega), p1, ((p2.trans e3).trans e4).mut p1, us ++ [y], upd_same, by rw [List.length_append, List.length_singleton]; omega, ?_⟩
    rw [List.range_succ, List.filter_append, List.map_append, List.filter_cons, if_pos hf]
    exact Rels.snoc ((p5.mono S (e3.trans e4)).imp fun _ _ r => S.lst p3' r) (S.lst p3' ry)
  | false =>
    rw [if_neg (by decide)]
    refine ⟨p1, p2.trans e3, us, e3 _ _ p3, by omega, ?_⟩
    rw [List.range_succ, List.filter_append, List.map_append, List.filter_cons, if_neg (by rw [hf]; decide)]
    show Rels R H3 us (_ ++ [])
    rw [List.append_nil]
    exact p5.mono S e3
/-- [e for k in range(n) if t] -/
theorem evr_cR1 {j : Nat} {n : Nat} {b : Nat → Bool} {x : Nat → α} (S : Stb R) (h : Ev ta σ H (.int n)) (hn : n ≤ 1000) (hw : ∀ v, wipe ((wipe σ [j]).set j (some v)) [j] = wipe σ [j])
    (ht : ∀ (i : Nat) H1, Ex H H1 → i < n → EvT t ((wipe σ [j]).set j (some (.int i))) H1 (b i)) (he : ∀ (i : Nat) H1, Ex H H1 → i < n → b i = true → EvR te ((wipe σ [j]).set j (some (.int i))) H1 (R (x i))) :
    EvR (tLc (iRng1 (tCons ta tNil)) (gName j) t te [j]) σ H (CompR R H (((List.range n).filter b).map x)) := fun H0 e Q q => h H0 e _ fun H1 e1 => ⟨n, rfl, by omega, by omega, fun D hD => by
  have en : ((n : Int)).toNat = n := by omega
  rw [en]
  refine lc_range (lo := 0) (n := n) (PvC R H1 D b x) ⟨hD, Ex.new hD, [], upd_same, Nat.le_refl _, trivial⟩ (fun i H' hi p => ?_) (fun H' p => ?_)
  · have e0 : (0 : Int) + (i : Int) = (i : Int) := Int.zero_add _
    show wipe ((wipe σ [j]).set j (some (.int ((0 : Int) + (i : Int))))) [j] = wipe σ [j] ∧ t ((wipe σ [j]).set j (some (.int ((0 : Int) + (i : Int))))) H' fun b H3 => _
    rw [e0]
    exact ⟨hw _, pvc_turn S p (by omega) (ht i H1 (e.trans e1) hi) (fun hf => he i H1 (e.trans e1) hi hf)⟩
  · obtain ⟨p1, p2, us, p3, p4, p5⟩ := p
    exact q _ H' (e1.trans p2) ⟨D, us, rfl, fresh_back (e.trans e1) p1, p3, p5⟩⟩
/-- [e for k in range(lo, n) if t] -/
theorem evr_cR2 {tb : TE} {j : Nat} {lo n : Nat} {b : Nat → Bool} {x : Nat → α} (S : Stb R) (h : Ev ta σ H (.int lo)) (h2 : Ev tb σ H (.int n)) (hlo : lo ≤ 1000) (hn : n ≤ 1000) (hw : ∀ v, wipe ((wipe σ [j]).set j (some v)) [j] = wipe σ [j])
    (ht : ∀ (i : Nat) H1, Ex H H1 → i < n - lo → EvT t ((wipe σ [j]).set j (some (.int (lo + i : Nat)))) H1 (b i)) (he : ∀ (i : Nat) H1, Ex H H1 → i < n - lo → b i = true → EvR te ((wipe σ [j]).set j (some (.int (lo + i : Nat)))) H1 (R (x i))) :
    EvR (tLc (iRng2 (tCons ta (tCons tb tNil))) (gName j) t te [j]) σ H (CompR R H (((List.range (n - lo)).filter b).map x)) := fun H0 e Q q => h H0 e _ fun H1 e1 => h2 H1 (e.trans e1) _ fun H2 e2 => ⟨lo, n, rfl, ⟨by omega, by omega, by omega, by omega⟩, fun D hD => by
  have en : ((n : Int) - lo).toNat = n - lo := by omega
  rw [en]
  refine lc_range (lo := lo) (n := n - lo) (PvC R H2 D b x) ⟨hD, Ex.new hD, [], upd_same, Nat.le_refl _, trivial⟩ (fun i H' hi p => ?_) (fun H' p => ?_)
  · have e0 : (lo : Int) + (i : Int) = ((lo + i : Nat) : Int) := by omega
    show wipe ((wipe σ [j]).set j (some (.int ((lo : Int) + (i : Int))))) [j] = wipe σ [j] ∧ t ((wipe σ [j]).set j (some (.int ((lo : Int) + (i : Int))))) H' fun b H3 => _
    rw [e0]
    exact ⟨hw _, pvc_turn S p (by omega) (ht i H2 (e.trans (e1.trans e2)) hi) (fun hf => he i H2 (e.trans (e1.trans e2)) hi hf)⟩
  · obtain ⟨p1, p2, us, p3, p4, p5⟩ := p
    exact q _ H' ((e1.trans e2).trans p2) ⟨D, us, rfl, fresh_back (e.trans (e1.trans e2)) p1, p3, p5⟩⟩
/-- [e for g in a list if t], any target; si the slots within a turn -/
theorem evr_cL {β : Type} {RS : β → V → Hp → Prop} {ys : List β} {g : TG} {vs : List Nat} {b : Nat → Bool} {x : Nat → α} {si : V → β → L2.St} (S : Stb R) (SS : Stb RS)
    (h : EvR tl σ H fun v H2 => ∃ p us, v = .ref p ∧ H2 p = some (.lst us) ∧ Rels RS H2 us ys) (hn : ys.length ≤ 5000) (hw : ∀ v y, wipe (si v y) vs = wipe σ vs)
    (hg : ∀ v y H1 (Q : L2.St → Hp → Prop), Ex H H1 → RS y v H1 → Q (si v y) H1 → g v (wipe σ vs) H1 Q)
    (ht : ∀ (i : Nat) (v : V) (y : β) H1, Ex H H1 → ys[i]? = some y → RS y v H1 → EvT t (si v y) H1 (b i)) (he : ∀ (i : Nat) (v : V) (y : β) H1, Ex H H1 → ys[i]? = some y → RS y v H1 → b i = true → EvR te (si v y) H1 (R (x i))) :
    EvR (tLc (iList K tl) g t te vs) σ H (CompR R H (((List.range ys.length).filter b).map x)) := fun H0 e Q q => h H0 e _ fun v H1 e1 ⟨a, us, ev, ha, hr⟩ => by
  subst ev
  refine ⟨a, rfl, ⟨us, sq_of ha⟩, fun D hD => ?_⟩
  have hl := hr.len
  refine lc_list (xs := us) (PvC R H1 D b x) ⟨hD, Ex.new hD, [], upd_same, Nat.le_refl _, trivial⟩ (fun i H' _ p => sq_of (p.2.1 _ _ ha)) (fun i v H' hi p => ?_) (fun H' p => ?_)
  · obtain ⟨y, hy, ry⟩ := hr.back hi
    have hil : i < ys.length := (List.getElem?_eq_some_iff.mp hy).1
    exact hg v y H' _ ((e.trans e1).trans p.2.1) (SS.mono p.2.1 ry) ⟨hw v y, pvc_turn S p (by omega) (ht i v y H1 (e.trans e1) hy ry) (fun hf => he i v y H1 (e.trans e1) hy ry hf)⟩
  · obtain ⟨p1, p2, us', p3, p4, p5⟩ := p
    rw [hl] at p5
    exact q _ H' (e1.trans p2) ⟨D, us', rfl, fresh_back (e.trans e1) p1, p3, p5⟩
/-- .. a tuple -/
theorem evr_cT {β : Type} {RS : β → V → Hp → Prop} {ys : List β} {g : TG} {vs : List Nat} {b : Nat → Bool} {x : Nat → α} {si : V → β → L2.St} (S : Stb R) (SS : Stb RS)
    (h : EvR tl σ H fun v H2 => ∃ p us, v = .ref p ∧ H2 p = some (.tup us) ∧ Rels RS H2 us ys) (hn : ys.length ≤ 5000) (hw : ∀ v y, wipe (si v y) vs = wipe σ vs)
    (hg : ∀ v y H1 (Q : L2.St → Hp → Prop), Ex H H1 → RS y v H1 → Q (si v y) H1 → g v (wipe σ vs) H1 Q)
    (ht : ∀ (i : Nat) (v : V) (y : β) H1, Ex H H1 → ys[i]? = some y → RS y v H1 → EvT t (si v y) H1 (b i)) (he : ∀ (i : Nat) (v : V) (y : β) H1, Ex H H1 → ys[i]? = some y → RS y v H1 → b i = true → EvR te (si v y) H1 (R (x i))) :
    EvR (tLc (iTup K tl) g t te vs) σ H (CompR R H (((List.range ys.length).filter b).map x)) := fun H0 e Q q => h H0 e _ fun v H1 e1 ⟨a, us, ev, ha, hr⟩ => by
  subst ev
  refine ⟨a, rfl, ⟨us, st_of ha⟩, fun D hD => ?_⟩
  have hl := hr.len
  refine lc_tup (xs := us) (PvC R H1 D b x) ⟨hD, Ex.new hD, [], upd_same, Nat.le_refl _, trivial⟩ (fun i H' _ p => st_of (p.2.1 _ _ ha)) (fun i v H' hi p => ?_) (fun H' p => ?_)
  · obtain ⟨y, hy, ry⟩ := hr.back hi
    have hil : i < ys.length := (List.getElem?_eq_some_iff.mp hy).1
    exact hg v y H' _ ((e.trans e1).trans p.2.1) (SS.mono p.2.1 ry) ⟨hw v y, pvc_turn S p (by omega) (ht i v y H1 (e.trans e1) hy ry) (fun hf => he i v y H1 (e.trans e1) hy ry hf)⟩
  · obtain ⟨p1, p2, us', p3, p4, p5⟩ := p
    rw [hl] at p5
    exact q _ H' (e1.trans p2) ⟨D, us', rfl, fresh_back (e.trans e1) p1, p3, p5⟩
/-- filters by place and by item -/
theorem range_filter {β γ : Type} (d : β) (p : β → Bool) (f : β → γ) : ∀ l : List β, ((List.range l.length).filter fun i => p (l.getD i d)).map (fun i => f (l.getD i d)) = (l.filter p).map f := by
  intro l
  have h1 : l = (List.range l.length).map fun i => l.getD i d := by
    apply List.ext_getElem?
    intro i
    by_cases hi : i < l.length
    · simp [hi]
    · rw [List.getElem?_eq_none (by omega), List.getElem?_eq_none (by simp; omega)]
  have h2 : (l.filter p).map f = (((List.range l.length).map fun i => l.getD i d).filter p).map f := by rw [← h1]
  rw [h2, List.filter_map, List.map_map]
  rfl
theorem range_filter_all {β : Type} {n : Nat} {f : Nat → β} : ((List.range n).filter fun _ => true).map f = vec n f := by
  unfold vec
  rw [List.filter_eq_self.mpr fun _ _ => rfl]
theorem evr_of_u {xs : List V} {f : α → List V} {y : α} (h : EvU te σ H xs) (e : xs = f y) : EvR te σ H (TupR f y) := fun H1 e1 Q q => h H1 e1 Q fun p H2 n e2 hp => q _ H2 e2 ⟨p, rfl, by rw [← e]; exact hp⟩
theorem evr_of_ev {f : α → V} {v : V} {y : α} (h : Ev te σ H v) (e : v = f y) : EvR te σ H (ValR f y) := fun H1 e1 Q q => h H1 e1 Q fun H2 e2 => q _ H2 e2 e
end
end QH

/-! Sums; the weights' invariant. -/
namespace QH
def sumZ : Nat → (Nat → Int) → Int
  | 0, _ => 0
  | n + 1, f => sumZ n f + f n
theorem sumZ_congr : ∀ {n : Nat} {f g : Nat → Int}, (∀ i, i < n → f i = g i) → sumZ n f = sumZ n g
  | 0, _, _, _ => rfl
  | n + 1, f, g, h => by
    show sumZ n f + f n = sumZ n g + g n
    rw [sumZ_congr fun i hi => h i (Nat.lt_succ_of_lt hi), h n (Nat.lt_succ_self n)]
theorem sumZ_up : ∀ {n : Nat} {f : Nat → Int} {i : Nat} {v : Int}, i < n → sumZ n (up f i v) = sumZ n f - f i + v
  | 0, _, _, _, h => absurd h (Nat.not_lt_zero _)
  | n + 1, f, i, v, h => by
    show sumZ n (up f i v) + up f i v n = sumZ n f + f n - f i + v
    by_cases e : i = n
    · subst e
      rw [up_same, sumZ_congr (g := f) fun j hj => up_ne (by omega)]
      omega
    · rw [sumZ_up (by omega), up_ne (by omega)]
      omega
theorem sumZ_out {n : Nat} {f : Nat → Int} {i : Nat} {v : Int} (h : ¬ i < n) : sumZ n (up f i v) = sumZ n f := sumZ_congr fun j hj => up_ne (by omega)
theorem sumZ_nonneg : ∀ {n : Nat} {f : Nat → Int}, (∀ i, i < n → 0 ≤ f i) → 0 ≤ sumZ n f
  | 0, _, _ => Int.le_refl _
  | n + 1, f, h => by
    have := sumZ_nonneg (n := n) (f := f) fun i hi => h i (Nat.lt_succ_of_lt hi)
    have := h n (Nat.lt_succ_self n)
    show 0 ≤ sumZ n f + f n
    omega
theorem sumZ_ge : ∀ {n : Nat} {f : Nat → Int} {i : Nat}, (∀ i, i < n → 0 ≤ f i) → i < n → f i ≤ sumZ n f
  | 0, _, _, _, h => absurd h (Nat.not_lt_zero _)
  | n + 1, f, i, h, hi => by
    have h1 := sumZ_nonneg (n := n) (f := f) fun i hi => h i (Nat.lt_succ_of_lt hi)
    have h2 := h n (Nat.lt_succ_self n)
    show f i ≤ sumZ n f + f n
    by_cases e : i = n
    · subst e
      omega
    · have := sumZ_ge (n := n) (f := f) (i := i) (fun i hi => h i (Nat.lt_succ_of_lt hi)) (by omega)
      omega
theorem sumZ_ge2 {n : Nat} {f : Nat → Int} {i j : Nat} (h : ∀ i, i < n → 0 ≤ f i) (hi : i < n) (hj : j < n) (ne : i ≠ j) : f i + f j ≤ sumZ n f := by
  have h1 := sumZ_up (f := f) (v := 0) hj
  have h2 := sumZ_ge (f := up f j 0) (i := i) (fun k hk => by
    by_cases e : k = j
    · subst e
      rw [up_same]
      exact Int.le_refl _
    · rw [up_ne e]
      exact h k hk) hi
  rw [up_ne ne] at h2
  omega
theorem sumZ_zero {n : Nat} {f : Nat → Int} (h : ∀ i, i < n → 0 ≤ f i) (z : sumZ n f = 0) : ∀ i, i < n → f i = 0 := fun i hi => by
  have := sumZ_ge h hi
  have := h i hi
  omega
theorem sumZ_all0 : ∀ {n : Nat} {f : Nat → Int}, (∀ i, i < n → f i = 0) → sumZ n f = 0
  | 0, _, _ => rfl
  | n + 1, f, h => by
    show sumZ n f + f n = 0
    rw [sumZ_all0 fun i hi => h i (Nat.lt_succ_of_lt hi), h n (Nat.lt_succ_self n)]
    rfl
theorem sumZ_add : ∀ {n : Nat} {f g : Nat → Int}, sumZ n (fun i => f i + g i) = sumZ n f + sumZ n g
  | 0, _, _ => rfl
  | n + 1, f, g => by
    show sumZ n (fun i => f i + g i) + (f n + g n) = sumZ n f + f n + (sumZ n g + g n)
    rw [sumZ_add]
    omega
def sum2 (n : Nat) (f : Nat → Nat → Int) : Int := sumZ n fun i => sumZ n fun j => f i j
theorem sum2_congr {n : Nat} {f g : Nat → Nat → Int} (h : ∀ i j, i < n → j < n → f i j = g i j) : sum2 n f = sum2 n g := sumZ_congr fun i hi => sumZ_congr fun j hj => h i j hi hj
theorem sum2_up2 {n : Nat} {f : Nat → Nat → Int} {a b : Nat} {v : Int} (ha : a < n) (hb : b < n) : sum2 n (up2 f a b v) = sum2 n f - f a b + v := by
  have e : (fun i => sumZ n fun j => up2 f a b v i j) = up (fun i => sumZ n fun j => f i j) a (sumZ n (f a) - f a b + v) := by
    funext i
    by_cases h : i = a
    · subst h
      rw [up_same]
      have : (fun j => up2 f i b v i j) = up (f i) b v := by
        funext j
        by_cases h2 : j = b
        · subst h2
          rw [up2_same, up_same]
        · rw [up2_ne (by omega), up_ne h2]
      show sumZ n (fun j => up2 f i b v i j) = _
      rw [this, sumZ_up hb]
    · rw [up_ne h]
      exact sumZ_congr fun j _ => up2_ne (by omega)
  unfold sum2
  rw [e, sumZ_up ha]
  show _ - sumZ n (f a) + _ = _
  omega
theorem sum2_nonneg {n : Nat} {f : Nat → Nat → Int} (h : ∀ i j, i < n → j < n → 0 ≤ f i j) : 0 ≤ sum2 n f := sumZ_nonneg fun i hi => sumZ_nonneg fun j hj => h i j hi hj
theorem sum2_ge {n : Nat} {f : Nat → Nat → Int} {a b : Nat} (h : ∀ i j, i < n → j < n → 0 ≤ f i j) (ha : a < n) (hb : b < n) : f a b ≤ sum2 n f :=
  Int.le_trans (sumZ_ge (f := f a) (fun j hj => h a j ha hj) hb) (sumZ_ge (f := fun i => sumZ n fun j => f i j) (fun i hi => sumZ_nonneg fun j hj => h i j hi hj) ha)
theorem sum2_zero {n : Nat} {f : Nat → Nat → Int} (h : ∀ i j, i < n → j < n → 0 ≤ f i j) (z : sum2 n f = 0) : ∀ i j, i < n → j < n → f i j = 0 := fun i j hi hj =>
  sumZ_zero (fun j hj => h i j hi hj) (sumZ_zero (f := fun i => sumZ n fun j => f i j) (fun i hi => sumZ_nonneg fun j hj => h i j hi hj) z i hi) j hj
/-! ### weights -/
/-- a weight in ninetieth halves -/
def wv (w : Wt) : Int := (w.1 : Int) * 2 ^ (90 - w.2)
def sv (l : List Wt) : Int := (l.map wv).sum
theorem wv_nonneg {w : Wt} : 0 ≤ wv w := Int.mul_nonneg (by omega) (by exact_mod_cast Nat.zero_le _)
theorem sv_nil : sv [] = 0 := rfl
theorem sv_cons {w : Wt} {l : List Wt} : sv (w :: l) = wv w + sv l := by simp [sv]
theorem sv_app {l m : List Wt} : sv (l ++ m) = sv l + sv m := by simp [sv]
theorem sv_nonneg : ∀ {l : List Wt}, 0 ≤ sv l
  | [] => Int.le_refl _
  | w :: l => by
    rw [sv_cons]
    have := wv_nonneg (w := w)
    have := sv_nonneg (l := l)
    omega
theorem sv_ge : ∀ {l : List Wt} {w : Wt}, w ∈ l → wv w ≤ sv l
  | a :: l, w, h => by
    rw [sv_cons]
    rcases List.mem_cons.mp h with rfl | h
    · have := sv_nonneg (l := l)
      omega
    · have := sv_ge h
      have := wv_nonneg (w := a)
      omega
theorem norm_pw : ∀ {p u : Nat}, (norm u p).2 ≤ p
  | 0, u => by
    show (if u = 0 then (0, 0) else (u, 0)).2 ≤ 0
    split <;> exact Nat.le_refl _
  | p + 1, u => by
    show (if u = 0 then (0, 0) else if u % 2 = 0 then norm (u / 2) p else (u, p + 1)).2 ≤ p + 1
    split
    · exact Nat.zero_le _
    · split
      · exact Nat.le_succ_of_le norm_pw
      · exact Nat.le_refl _
def NF (w : Wt) : Prop := w = (0, 0) ∨ (w.1 % 2 = 1) ∨ (w.2 = 0 ∧ w.1 ≠ 0)
theorem norm_nf : ∀ {p u : Nat}, NF (norm u p)
  | 0, u => by
    show NF (if u = 0 then (0, 0) else (u, 0))
    split
    · exact Or.inl rfl
    · exact Or.inr (Or.inr ⟨rfl, by assumption⟩)
  | p + 1, u => by
    show NF (if u = 0 then (0, 0) else if u % 2 = 0 then norm (u / 2) p else (u, p + 1))
    split
    · exact Or.inl rfl
    · split
      · exact norm_nf
      · exact Or.inr (Or.inl (by omega))
theorem norm_wv : ∀ {p u : Nat}, p ≤ 90 → wv (norm u p) = (u : Int) * 2 ^ (90 - p)
  | 0, u, h => by
    show wv (if u = 0 then (0, 0) else (u, 0)) = _
    split
    · rename_i e
      rw [e]
      simp [wv]
    · rfl
  | p + 1, u, h => by
    show wv (if u = 0 then (0, 0) else if u % 2 = 0 then norm (u / 2) p else (u, p + 1)) = _
    split
    · rename_i e
      rw [e]
      simp [wv]
    · split
      · rename_i e
        rw [norm_wv (by omega)]
        have e1 : 90 - p = (90 - (p + 1)) + 1 := by omega
        rw [e1, Int.pow_succ]
        have e2 : (u : Int) = ((u / 2 : Nat) : Int) * 2 := by omega
        generalize (2 : Int) ^ (90 - (p + 1)) = m
        rw [e2]
        have e3 : ((((u / 2 : Nat) : Int) * 2).toNat / 2 : Nat) = u / 2 := by omega
        rw [Int.mul_assoc, Int.mul_comm m 2]
      · rfl
theorem half_wv {w : Wt} (h : w.2 < 90) : wv (half w) * 2 = wv w := by
  unfold half
  split
  · rename_i e
    show _ = (w.1 : Int) * 2 ^ (90 - w.2)
    rw [e]
    simp [wv]
  · rw [norm_wv (by omega)]
    show _ = (w.1 : Int) * 2 ^ (90 - w.2)
    have e1 : 90 - w.2 = (90 - (w.2 + 1)) + 1 := by omega
    rw [e1, Int.pow_succ, Int.mul_assoc]
theorem half_pw {w : Wt} : (half w).2 ≤ w.2 + 1 := by
  unfold half
  split
  · exact Nat.zero_le _
  · exact norm_pw
theorem half_nf {w : Wt} : NF (half w) := by
  unfold half
  split
  · exact Or.inl rfl
  · exact norm_nf
theorem pow_split {a P : Nat} (h : a ≤ P) (hP : P ≤ 90) : (2 : Int) ^ (P - a) * 2 ^ (90 - P) = 2 ^ (90 - a) := by
  rw [← Int.pow_add]
  congr 1
  omega
theorem plus_wv {a b : Wt} (ha : a.2 ≤ 90) (hb : b.2 ≤ 90) : wv (plus a b) = wv a + wv b := by
  unfold plus
  have hm : max a.2 b.2 ≤ 90 := by omega
  rw [norm_wv hm]
  have e1 := pow_split (a := a.2) (P := max a.2 b.2) (by omega) hm
  have e2 := pow_split (a := b.2) (P := max a.2 b.2) (by omega) hm
  unfold wv
  rw [← e1, ← e2]
  simp only [Int.natCast_add, Int.natCast_mul, Int.natCast_pow, Int.add_mul, Int.mul_assoc]
  rfl
theorem plus_pw {a b : Wt} {u : Nat} (ha : a.2 ≤ u) (hb : b.2 ≤ u) : (plus a b).2 ≤ u := Nat.le_trans norm_pw (by omega)
theorem plus_nf {a b : Wt} : NF (plus a b) := norm_nf
theorem pow_pos2 {k : Nat} : (0 : Int) < 2 ^ k := Int.pow_pos (by decide)
theorem wv_pos {w : Wt} : 0 < wv w ↔ 0 < w.1 := by
  unfold wv
  constructor
  · intro h
    by_cases e : w.1 = 0
    · rw [e] at h
      simp at h
    · omega
  · intro h
    exact Int.mul_pos (by omega) pow_pos2
theorem wv_zero {w : Wt} (h : w.1 = 0) : wv w = 0 := by
  unfold wv
  rw [h]
  simp
theorem fit_of {w : Wt} {u : Nat} (h : w.2 ≤ u) (hu : u ≤ 62) (hv : wv w ≤ 2 ^ 90) : Fit w := by
  refine ⟨?_, by omega⟩
  have e : (2 : Int) ^ 90 = 2 ^ w.2 * 2 ^ (90 - w.2) := by rw [← Int.pow_add]; congr 1; omega
  have h1 : (w.1 : Int) * 2 ^ (90 - w.2) ≤ 2 ^ w.2 * 2 ^ (90 - w.2) := by rw [← e]; exact hv
  have h2 : (w.1 : Int) ≤ 2 ^ w.2 := Int.le_of_mul_le_mul_right h1 pow_pos2
  have h3 : w.1 ≤ 2 ^ w.2 := by exact_mod_cast h2
  exact Nat.lt_of_le_of_lt h3 (Nat.pow_lt_pow_right (by decide) (by omega))
/-- the same of all weights of a hall -/
structure AllW (P : Wt → Prop) (s : S) : Prop where
  h : ∀ i, i < s.n → P (s.held i)
  r : ∀ i j, i < s.n → j < s.n → ∀ w ∈ s.rows i j, P w
  w : ∀ i, i < s.n → ∀ w ∈ s.hw i, P w
def S.total (s : S) : Int := sumZ s.n (fun i => wv (s.held i)) + sum2 s.n (fun i j => sv (s.rows i j)) + sumZ s.n fun i => sv (s.hw i)
/-- the weights' invariant behind u sends -/
structure WI (u : Nat) (s : S) : Prop where
  pw : AllW (fun w => w.2 ≤ u ∧ NF w) s
  tot : s.total = 2 ^ 90
  hp : ∀ i, i < s.n → (0 < (s.held i).1 ↔ (i = 0 ∨ s.busy i = true))
  rp : ∀ i j, i < s.n → j < s.n → ∀ w ∈ s.rows i j, 0 < w.1
  wp : ∀ i, i < s.n → ∀ w ∈ s.hw i, 0 < w.1
theorem WI.le {u : Nat} {s : S} (h : WI u s) : AllW (fun w => wv w ≤ 2 ^ 90) s := by
  have t := h.tot
  unfold S.total at t
  have n1 : ∀ i, i < s.n → 0 ≤ wv (s.held i) := fun _ _ => wv_nonneg
  have n2 : ∀ i j, i < s.n → j < s.n → 0 ≤ sv (s.rows i j) := fun _ _ _ _ => sv_nonneg
  have n3 : ∀ i, i < s.n → 0 ≤ sv (s.hw i) := fun _ _ => sv_nonneg
  have s1 := sumZ_nonneg n1
  have s2 := sum2_nonneg n2
  have s3 := sumZ_nonneg n3
  refine ⟨fun i hi => ?_, fun i j hi hj w hw => ?_, fun i hi w hw => ?_⟩
  · have := sumZ_ge n1 hi
    omega
  · have := sum2_ge n2 hi hj
    have := sv_ge hw
    omega
  · have := sumZ_ge n3 hi
    have := sv_ge hw
    omega
theorem WI.fit {u : Nat} {s : S} (h : WI u s) (hu : u ≤ 62) : AllW Fit s :=
  ⟨fun i hi => fit_of (h.pw.h i hi).1 hu (h.le.h i hi), fun i j hi hj w hw => fit_of (h.pw.r i j hi hj w hw).1 hu (h.le.r i j hi hj w hw), fun i hi w hw => fit_of (h.pw.w i hi w hw).1 hu (h.le.w i hi w hw)⟩
end QH

/-! The weights' invariant is kept. -/
namespace QH
theorem up_comp {α β : Type} {g : α → β} {f : Nat → α} {j : Nat} {x : α} : (fun i => g (up f j x i)) = up (fun i => g (f i)) j (g x) := by
  funext i
  by_cases e : i = j
  · subst e
    rw [up_same, up_same]
  · rw [up_ne e, up_ne e]
theorem up2_comp {α β : Type} {g : α → β} {f : Nat → Nat → α} {i k : Nat} {x : α} : (fun a b => g (up2 f i k x a b)) = up2 (fun a b => g (f a b)) i k (g x) := by
  funext a b
  by_cases e : a = i ∧ b = k
  · obtain ⟨rfl, rfl⟩ := e
    rw [up2_same, up2_same]
  · rw [up2_ne e, up2_ne e]
/-- what the weights' invariant looks at -/
def S.wview (s : S) : Nat × (Nat → Wt) × (Nat → Nat → List Wt) × (Nat → List Wt) × (Nat → Bool) := (s.n, s.held, s.rows, s.hw, s.busy)
theorem WI.of {u : Nat} {s s' : S} (h : WI u s) (e : s'.wview = s.wview) : WI u s' := by
  obtain ⟨n, busy, rows, due, over, slips, held, hw, cnt, blk, place, sum, tb, begun, found⟩ := s
  obtain ⟨n', busy', rows', due', over', slips', held', hw', cnt', blk', place', sum', tb', begun', found'⟩ := s'
  simp only [S.wview, Prod.mk.injEq] at e
  obtain ⟨rfl, rfl, rfl, rfl, rfl⟩ := e
  exact ⟨⟨h.pw.h, h.pw.r, h.pw.w⟩, h.tot, h.hp, h.rp, h.wp⟩
theorem settle_wview {s : S} {a : Nat} {w : Bool} : (s.settle a w).wview = s.wview := by unfold S.settle; split <;> rfl
theorem treeTaken_wview {s : S} {a b : Nat} : (s.treeTaken a b).wview = s.wview := by unfold S.treeTaken; split <;> rfl
theorem passed_wview {s : S} : s.passed.wview = s.wview := by unfold S.passed; split <;> rfl
theorem WI.init {n : Nat} (hn : 0 < n) : WI 0 (S.init n) := by
  have e1 : (S.init n).held = up (fun _ => (0, 0)) 0 (1, 0) := by
    funext i
    by_cases e : i = 0
    · subst e
      rfl
    · rw [up_ne e]
      show (if i = 0 then ((1, 0) : Wt) else (0, 0)) = (0, 0)
      rw [if_neg e]
  refine ⟨⟨fun i hi => ?_, fun i j hi hj w hw => (by cases hw), fun i hi w hw => (by cases hw)⟩, ?_, fun i hi => ?_, fun i j hi hj w hw => (by cases hw), fun i hi w hw => (by cases hw)⟩
  · show ((if i = 0 then ((1, 0) : Wt) else (0, 0))).2 ≤ 0 ∧ NF (if i = 0 then ((1, 0) : Wt) else (0, 0))
    split
    · exact ⟨Nat.le_refl _, Or.inr (Or.inl rfl)⟩
    · exact ⟨Nat.le_refl _, Or.inl rfl⟩
  · unfold S.total
    rw [e1]
    have h1 : sumZ n (fun i => wv (up (fun _ => ((0, 0) : Wt)) 0 (1, 0) i)) = 2 ^ 90 := by
      rw [up_comp, sumZ_up hn, sumZ_all0 (fun i _ => (by rfl))]
      rfl
    have h2 : sum2 n (fun i j => sv ((S.init n).rows i j)) = 0 := sumZ_all0 fun i _ => sumZ_all0 fun j _ => rfl
    have h3 : sumZ n (fun i => sv ((S.init n).hw i)) = 0 := sumZ_all0 fun i _ => rfl
    show sumZ n _ + sum2 n _ + sumZ n _ = _
    rw [h1, h2, h3]
    rfl
  · show 0 < (if i = 0 then ((1, 0) : Wt) else (0, 0)).1 ↔ (i = 0 ∨ decide (i = 0) = true)
    by_cases e : i = 0
    · rw [if_pos e]
      simp [e]
    · rw [if_neg e]
      simp [e]
theorem half_pos {w : Wt} (h : 0 < w.1) (hw : w.2 < 90) : 0 < (half w).1 := by
  have h1 := half_wv hw
  have h2 := wv_pos.mpr h
  exact wv_pos.mp (by omega)
theorem WI.send {u : Nat} {s : S} {a b : Nat} (h : WI u s) (hu : u < 90) (hc : s.Can (.send a b)) : WI (u + 1) (s.send a b) := by
  obtain ⟨⟨ha, hb, hne⟩, hbusy⟩ := hc
  have pa := h.pw.h a ha
  have pos : 0 < (s.held a).1 := (h.hp a ha).mpr (Or.inr hbusy)
  have g : WI (u + 1) ((s.split a).setRow a b (s.rows a b ++ [half (s.held a)])) := by
    refine ⟨⟨fun i hi => ?_, fun i j hi hj w hw => ?_, fun i hi w hw => ?_⟩, ?_, fun i hi => ?_, fun i j hi hj w hw => ?_, fun i hi w hw => h.wp i hi w hw⟩
    · show (up s.held a (half (s.held a)) i).2 ≤ u + 1 ∧ NF (up s.held a (half (s.held a)) i)
      by_cases e : i = a
      · subst e
        rw [up_same]
        exact ⟨Nat.le_trans half_pw (by omega), half_nf⟩
      · rw [up_ne e]
        exact ⟨Nat.le_succ_of_le (h.pw.h i hi).1, (h.pw.h i hi).2⟩
    · have hw : w ∈ up2 s.rows a b (s.rows a b ++ [half (s.held a)]) i j := hw
      by_cases e : i = a ∧ j = b
      · obtain ⟨rfl, rfl⟩ := e
        rw [up2_same] at hw
        rcases List.mem_append.mp hw with q | q
        · exact ⟨Nat.le_succ_of_le (h.pw.r i j hi hj w q).1, (h.pw.r i j hi hj w q).2⟩
        · rw [List.mem_singleton.mp q]
          exact ⟨Nat.le_trans half_pw (by omega), half_nf⟩
      · rw [up2_ne e] at hw
        exact ⟨Nat.le_succ_of_le (h.pw.r i j hi hj w hw).1, (h.pw.r i j hi hj w hw).2⟩
    · exact ⟨Nat.le_succ_of_le (h.pw.w i hi w hw).1, (h.pw.w i hi w hw).2⟩
    · have t := h.tot
      unfold S.total at t ⊢
      show sumZ s.n (fun i => wv (up s.held a (half (s.held a)) i)) + sum2 s.n (fun i j => sv (up2 s.rows a b (s.rows a b ++ [half (s.held a)]) i j)) + sumZ s.n (fun i => sv (s.hw i)) = _
      rw [up_comp, sumZ_up ha, up2_comp, sum2_up2 ha hb, sv_app, sv_cons, sv_nil]
      have := half_wv (w := s.held a) (by omega)
      omega
    · show 0 < (up s.held a (half (s.held a)) i).1 ↔ _
      by_cases e : i = a
      · subst e
        rw [up_same]
        exact ⟨fun _ => (h.hp i hi).mp pos, fun _ => half_pos pos (by omega)⟩
      · rw [up_ne e]
        exact h.hp i hi
    · have hw : w ∈ up2 s.rows a b (s.rows a b ++ [half (s.held a)]) i j := hw
      by_cases e : i = a ∧ j = b
      · obtain ⟨rfl, rfl⟩ := e
        rw [up2_same] at hw
        rcases List.mem_append.mp hw with q | q
        · exact h.rp i j hi hj w q
        · rw [List.mem_singleton.mp q]
          exact half_pos pos (by omega)
      · rw [up2_ne e] at hw
        exact h.rp i j hi hj w hw
  exact g.of rfl
theorem WI.take {u : Nat} {s : S} {a b : Nat} (h : WI u s) (hu : u ≤ 90) (hc : s.Can (.take a b)) : WI u (s.take a b) := by
  obtain ⟨⟨ha, hb, hne⟩, hrow⟩ := hc
  obtain ⟨w0, ws, hws⟩ : ∃ w ws, s.rows a b = w :: ws := by
    cases e : s.rows a b with
    | nil => exact absurd e hrow
    | cons w ws => exact ⟨w, ws, rfl⟩
  have pb := h.pw.h b hb
  have p0 := h.pw.r a b ha hb w0 (by rw [hws]; exact List.mem_cons_self)
  have ps : wv (plus (s.held b) w0) = wv (s.held b) + wv w0 := plus_wv (by omega) (by omega)
  have pos0 : 0 < w0.1 := h.rp a b ha hb w0 (by rw [hws]; exact List.mem_cons_self)
  have pos : 0 < (plus (s.held b) w0).1 := wv_pos.mp (by have := wv_pos.mpr pos0; have := wv_nonneg (w := s.held b); omega)
  have g : WI u (((s.add b w0).setRow a b ws).setBusy b true) := by
    refine ⟨⟨fun i hi => ?_, fun i j hi hj w hw => ?_, fun i hi w hw => h.pw.w i hi w hw⟩, ?_, fun i hi => ?_, fun i j hi hj w hw => ?_, fun i hi w hw => h.wp i hi w hw⟩
    · show (up s.held b (plus (s.held b) w0) i).2 ≤ u ∧ NF (up s.held b (plus (s.held b) w0) i)
      by_cases e : i = b
      · subst e
        rw [up_same]
        exact ⟨plus_pw pb.1 p0.1, plus_nf⟩
      · rw [up_ne e]
        exact h.pw.h i hi
    · have hw : w ∈ up2 s.rows a b ws i j := hw
      by_cases e : i = a ∧ j = b
      · obtain ⟨rfl, rfl⟩ := e
        rw [up2_same] at hw
        exact h.pw.r i j hi hj w (by rw [hws]; exact List.mem_cons_of_mem _ hw)
      · rw [up2_ne e] at hw
        exact h.pw.r i j hi hj w hw
    · have t := h.tot
      unfold S.total at t ⊢
      show sumZ s.n (fun i => wv (up s.held b (plus (s.held b) w0) i)) + sum2 s.n (fun i j => sv (up2 s.rows a b ws i j)) + sumZ s.n (fun i => sv (s.hw i)) = _
      rw [up_comp, sumZ_up hb, up2_comp, sum2_up2 ha hb, hws, sv_cons]
      omega
    · show 0 < (up s.held b (plus (s.held b) w0) i).1 ↔ (i = 0 ∨ up s.busy b true i = true)
      by_cases e : i = b
      · subst e
        rw [up_same, up_same]
        exact ⟨fun _ => Or.inr rfl, fun _ => pos⟩
      · rw [up_ne e, up_ne e]
        exact h.hp i hi
    · have hw : w ∈ up2 s.rows a b ws i j := hw
      by_cases e : i = a ∧ j = b
      · obtain ⟨rfl, rfl⟩ := e
        rw [up2_same] at hw
        exact h.rp i j hi hj w (by rw [hws]; exact List.mem_cons_of_mem _ hw)
      · rw [up2_ne e] at hw
        exact h.rp i j hi hj w hw
  have e : s.take a b = S.ringTaken (S.treeTaken (((s.add b w0).setRow a b ws).setBusy b true) a b) b := by unfold S.take; rw [hws]; rfl
  rw [e]
  exact (g.of treeTaken_wview).of rfl
theorem WI.rest {u : Nat} {s : S} {a : Nat} (h : WI u s) (hc : s.Can (.rest a)) : WI u (s.rest a) := by
  obtain ⟨ha, hbusy⟩ := hc
  have pos : 0 < (s.held a).1 := (h.hp a ha).mpr (Or.inr hbusy)
  have g : WI u ((s.setBusy a false).wRested a) := by
    unfold S.wRested
    split
    · rename_i a0
      refine ⟨⟨fun i hi => ?_, fun i j hi hj w hw => h.pw.r i j hi hj w hw, fun i hi w hw => ?_⟩, ?_, fun i hi => ?_, fun i j hi hj w hw => h.rp i j hi hj w hw, fun i hi w hw => ?_⟩
      · show (up s.held a (0, 0) i).2 ≤ u ∧ NF (up s.held a (0, 0) i)
        by_cases e : i = a
        · subst e
          rw [up_same]
          exact ⟨Nat.zero_le _, Or.inl rfl⟩
        · rw [up_ne e]
          exact h.pw.h i hi
      · have hw : w ∈ up s.hw a (s.hw a ++ [s.held a]) i := hw
        by_cases e : i = a
        · subst e
          rw [up_same] at hw
          rcases List.mem_append.mp hw with q | q
          · exact h.pw.w i hi w q
          · rw [List.mem_singleton.mp q]
            exact h.pw.h i hi
        · rw [up_ne e] at hw
          exact h.pw.w i hi w hw
      · have t := h.tot
        unfold S.total at t ⊢
        show sumZ s.n (fun i => wv (up s.held a (0, 0) i)) + sum2 s.n (fun i j => sv (s.rows i j)) + sumZ s.n (fun i => sv (up s.hw a (s.hw a ++ [s.held a]) i)) = _
        rw [up_comp, sumZ_up ha, up_comp (g := sv), sumZ_up ha, sv_app, sv_cons, sv_nil, wv_zero (w := (0, 0)) rfl]
        omega
      · show 0 < (up s.held a (0, 0) i).1 ↔ (i = 0 ∨ up s.busy a false i = true)
        by_cases e : i = a
        · subst e
          rw [up_same, up_same]
          constructor
          · intro z
            cases z
          · rintro (z | z)
            · omega
            · cases z
        · rw [up_ne e, up_ne e]
          exact h.hp i hi
      · have hw : w ∈ up s.hw a (s.hw a ++ [s.held a]) i := hw
        by_cases e : i = a
        · subst e
          rw [up_same] at hw
          rcases List.mem_append.mp hw with q | q
          · exact h.wp i hi w q
          · rw [List.mem_singleton.mp q]
            exact pos
        · rw [up_ne e] at hw
          exact h.wp i hi w hw
    · rename_i a0
      have a0 : a = 0 := by omega
      refine ⟨⟨h.pw.h, h.pw.r, h.pw.w⟩, h.tot, fun i hi => ?_, h.rp, h.wp⟩
      show 0 < (s.held i).1 ↔ (i = 0 ∨ up s.busy a false i = true)
      by_cases e : i = a
      · subst e
        subst a0
        exact ⟨fun _ => Or.inl rfl, fun _ => pos⟩
      · rw [up_ne e]
        exact h.hp i hi
  exact g.of settle_wview
theorem WI.home {u : Nat} {s : S} {a : Nat} (h : WI u s) (hu : u ≤ 90) (hn : 0 < s.n) (hc : s.Can (.home a)) : WI u (s.cameHome a) := by
  obtain ⟨a0, ha, hne⟩ := hc
  obtain ⟨w0, ws, hws⟩ : ∃ w ws, s.hw a = w :: ws := by
    cases e : s.hw a with
    | nil => exact absurd e hne
    | cons w ws => exact ⟨w, ws, rfl⟩
  have pb := h.pw.h 0 hn
  have p0 := h.pw.w a ha w0 (by rw [hws]; exact List.mem_cons_self)
  have ps : wv (plus (s.held 0) w0) = wv (s.held 0) + wv w0 := plus_wv (by omega) (by omega)
  have pos : 0 < (plus (s.held 0) w0).1 := wv_pos.mp (by have := wv_pos.mpr ((h.hp 0 hn).mpr (Or.inl rfl)); have := wv_nonneg (w := w0); omega)
  have e : s.cameHome a = S.add { s with hw := up s.hw a ws } 0 w0 := by unfold S.cameHome; rw [hws]; rfl
  rw [e]
  refine ⟨⟨fun i hi => ?_, fun i j hi hj w hw => h.pw.r i j hi hj w hw, fun i hi w hw => ?_⟩, ?_, fun i hi => ?_, fun i j hi hj w hw => h.rp i j hi hj w hw, fun i hi w hw => ?_⟩
  · show (up s.held 0 (plus (s.held 0) w0) i).2 ≤ u ∧ NF (up s.held 0 (plus (s.held 0) w0) i)
    by_cases e : i = 0
    · subst e
      rw [up_same]
      exact ⟨plus_pw pb.1 p0.1, plus_nf⟩
    · rw [up_ne e]
      exact h.pw.h i hi
  · have hw : w ∈ up s.hw a ws i := hw
    by_cases e : i = a
    · subst e
      rw [up_same] at hw
      exact h.pw.w i hi w (by rw [hws]; exact List.mem_cons_of_mem _ hw)
    · rw [up_ne e] at hw
      exact h.pw.w i hi w hw
  · have t := h.tot
    unfold S.total at t ⊢
    show sumZ s.n (fun i => wv (up s.held 0 (plus (s.held 0) w0) i)) + sum2 s.n (fun i j => sv (s.rows i j)) + sumZ s.n (fun i => sv (up s.hw a ws i)) = _
    rw [up_comp, sumZ_up hn, up_comp (g := sv), sumZ_up ha, hws, sv_cons]
    omega
  · show 0 < (up s.held 0 (plus (s.held 0) w0) i).1 ↔ (i = 0 ∨ s.busy i = true)
    by_cases e : i = 0
    · subst e
      rw [up_same]
      exact ⟨fun _ => Or.inl rfl, fun _ => pos⟩
    · rw [up_ne e]
      exact h.hp i hi
  · have hw : w ∈ up s.hw a ws i := hw
    by_cases e : i = a
    · subst e
      rw [up_same] at hw
      exact h.wp i hi w (by rw [hws]; exact List.mem_cons_of_mem _ hw)
    · rw [up_ne e] at hw
      exact h.wp i hi w hw
theorem WI.step {u : Nat} {s : S} {a : Act} (h : WI u s) (hu : u < 90) (hn : 0 < s.n) (hc : s.Can a) : WI (u + 1) (s.step a) := by
  have up1 : ∀ {s : S}, WI u s → WI (u + 1) s := fun h => ⟨⟨fun i hi => ⟨Nat.le_succ_of_le (h.pw.h i hi).1, (h.pw.h i hi).2⟩, fun i j hi hj w hw => ⟨Nat.le_succ_of_le (h.pw.r i j hi hj w hw).1, (h.pw.r i j hi hj w hw).2⟩, fun i hi w hw => ⟨Nat.le_succ_of_le (h.pw.w i hi w hw).1, (h.pw.w i hi w hw).2⟩⟩, h.tot, h.hp, h.rp, h.wp⟩
  cases a with
  | send a b => exact h.send hu hc
  | take a b => exact up1 (h.take (by omega) hc)
  | rest a => exact up1 (h.rest hc)
  | back a b => exact up1 (h.of (Eq.trans settle_wview rfl))
  | home a => exact up1 (h.home (by omega) hn hc)
  | pass => exact up1 (h.of passed_wview)
/-- acts other than send keep the bound -/
theorem WI.step' {u : Nat} {s : S} {a : Act} (h : WI u s) (hu : u ≤ 90) (hn : 0 < s.n) (hc : s.Can a) (ns : ∀ x y, a ≠ .send x y) : WI u (s.step a) := by
  cases a with
  | send a b => exact absurd rfl (ns a b)
  | take a b => exact h.take hu hc
  | rest a => exact h.rest hc
  | back a b => exact h.of (Eq.trans settle_wview rfl)
  | home a => exact h.home hu hn hc
  | pass => exact h.of passed_wview
/-! ### the rest that the walk asks -/
structure SI (t : Nat) (s : S) : Prop where
  n2 : 2 ≤ s.n
  n6 : s.n ≤ 6
  pl : s.place < s.n
  ov : ∀ h, h < s.n → ∀ o, s.over h = some o → o < s.n
  rl : ∀ i j, i < s.n → j < s.n → (s.rows i j).length ≤ t
  wl : ∀ h, h < s.n → (s.hw h).length ≤ t
  rd : ∀ i, s.rows i i = []
theorem good_of {u t : Nat} {s : S} (w : WI u s) (i : SI t s) (hu : u ≤ 62) (ht : t ≤ 90000) : Good s :=
  let f := w.fit hu
  ⟨i.n2, i.n6, i.pl, i.ov, f.h, f.r, f.w, fun a b ha hb => Nat.le_trans (i.rl a b ha hb) ht, fun h hh => Nat.le_trans (i.wl h hh) ht⟩
theorem SI.init {n : Nat} (h2 : 2 ≤ n) (h6 : n ≤ 6) : SI 0 (S.init n) := ⟨h2, h6, (by show 0 < n; omega), (fun h _ o e => (by cases e)), fun _ _ _ _ => Nat.le_refl _, fun _ _ => Nat.le_refl _, fun _ => rfl⟩
theorem settle_n {s : S} {a : Nat} {w : Bool} : (s.settle a w).n = s.n := by unfold S.settle; split <;> rfl
theorem settle_rows {s : S} {a : Nat} {w : Bool} : (s.settle a w).rows = s.rows := by unfold S.settle; split <;> rfl
theorem settle_hw {s : S} {a : Nat} {w : Bool} : (s.settle a w).hw = s.hw := by unfold S.settle; split <;> rfl
theorem settle_place {s : S} {a : Nat} {w : Bool} : (s.settle a w).place = s.place := by unfold S.settle; split <;> rfl
theorem settle_over {s : S} {a : Nat} {w : Bool} : ∀ h o, (s.settle a w).over h = some o → s.over h = some o := by
  intro h o e
  unfold S.settle at e
  split at e
  · have e : up s.over a none h = some o := e
    by_cases q : h = a
    · subst q
      rw [up_same] at e
      cases e
    · rw [up_ne q] at e
      exact e
  · exact e
theorem step_n {s : S} {a : Act} : (s.step a).n = s.n := by
  cases a with
  | send a b => rfl
  | take a b =>
    show (S.treeTaken _ a b).n = s.n
    unfold S.treeTaken
    split <;> rfl
  | rest a =>
    show (S.settle _ a false).n = s.n
    rw [settle_n]
    unfold S.wRested
    split <;> rfl
  | back a b =>
    show (S.settle _ a _).n = s.n
    rw [settle_n]
    rfl
  | home a => rfl
  | pass =>
    show s.passed.n = s.n
    unfold S.passed
    split <;> rfl
theorem SI.mono {t : Nat} {s : S} (h : SI t s) : SI (t + 1) s := ⟨h.n2, h.n6, h.pl, h.ov, fun i j hi hj => Nat.le_succ_of_le (h.rl i j hi hj), fun i hi => Nat.le_succ_of_le (h.wl i hi), h.rd⟩
theorem SI.step {t : Nat} {s : S} {a : Act} (h : SI t s) (hc : s.Can a) : SI (t + 1) (s.step a) := by
  have hn := step_n (s := s) (a := a)
  refine ⟨by rw [hn]; exact h.n2, by rw [hn]; exact h.n6, ?_, ?_, ?_, ?_, ?_⟩
  · rw [hn]
    have n2 := h.n2
    have pl := h.pl
    cases a with
    | send a b => exact pl
    | take a b =>
      show (S.treeTaken _ a b).place < s.n
      unfold S.treeTaken
      split <;> exact pl
    | rest a =>
      show (S.settle _ a false).place < s.n
      rw [settle_place]
      unfold S.wRested
      split <;> exact pl
    | back a b =>
      show (S.settle _ a _).place < s.n
      rw [settle_place]
      exact pl
    | home a => exact pl
    | pass =>
      show s.passed.place < s.n
      unfold S.passed
      split
      · show s.n - 1 < s.n
        omega
      · show s.place - 1 < s.n
        omega
  · rw [hn]
    cases a with
    | send a b => exact h.ov
    | take a b =>
      intro k hk o
      show (S.treeTaken _ a b).over k = some o → _
      unfold S.treeTaken
      split
      · exact h.ov k hk o
      · intro e
        have e : up s.over b (some a) k = some o := e
        by_cases q : k = b
        · subst q
          rw [up_same] at e
          cases e
          exact hc.1.1
        · rw [up_ne q] at e
          exact h.ov k hk o e
    | rest a =>
      intro k hk o e
      have e := settle_over k o e
      unfold S.wRested at e
      split at e <;> exact h.ov k hk o e
    | back a b =>
      intro k hk o e
      have e := settle_over k o e
      exact h.ov k hk o e
    | home a => exact h.ov
    | pass =>
      intro k hk o
      show s.passed.over k = some o → _
      unfold S.passed
      split <;> exact h.ov k hk o
  · rw [hn]
    cases a with
    | send a b =>
      intro i j hi hj
      show (up2 s.rows a b (s.rows a b ++ [half (s.held a)]) i j).length ≤ t + 1
      by_cases q : i = a ∧ j = b
      · obtain ⟨rfl, rfl⟩ := q
        rw [up2_same, List.length_append, List.length_singleton]
        have := h.rl i j hi hj
        omega
      · rw [up2_ne q]
        exact Nat.le_succ_of_le (h.rl i j hi hj)
    | take a b =>
      intro i j hi hj
      have e : (s.step (.take a b)).rows = up2 s.rows a b (s.rows a b).tail := by
        show (S.treeTaken _ a b).rows = _
        unfold S.treeTaken
        split <;> rfl
      rw [e]
      by_cases q : i = a ∧ j = b
      · obtain ⟨rfl, rfl⟩ := q
        rw [up2_same, List.length_tail]
        have := h.rl i j hi hj
        omega
      · rw [up2_ne q]
        exact Nat.le_succ_of_le (h.rl i j hi hj)
    | rest a =>
      intro i j hi hj
      have e : (s.step (.rest a)).rows = s.rows := by
        show (S.settle _ a false).rows = _
        rw [settle_rows]
        unfold S.wRested
        split <;> rfl
      rw [e]
      exact Nat.le_succ_of_le (h.rl i j hi hj)
    | back a b =>
      intro i j hi hj
      have e : (s.step (.back a b)).rows = s.rows := by
        show (S.settle _ a _).rows = _
        rw [settle_rows]
        rfl
      rw [e]
      exact Nat.le_succ_of_le (h.rl i j hi hj)
    | home a => exact fun i j hi hj => Nat.le_succ_of_le (h.rl i j hi hj)
    | pass =>
      intro i j hi hj
      have e : (s.step .pass).rows = s.rows := by
        show s.passed.rows = s.rows
        unfold S.passed
        split <;> rfl
      rw [e]
      exact Nat.le_succ_of_le (h.rl i j hi hj)
  · rw [hn]
    cases a with
    | send a b => exact fun i hi => Nat.le_succ_of_le (h.wl i hi)
    | take a b =>
      intro i hi
      have e : (s.step (.take a b)).hw = s.hw := by
        show (S.treeTaken _ a b).hw = _
        unfold S.treeTaken
        split <;> rfl
      rw [e]
      exact Nat.le_succ_of_le (h.wl i hi)
    | rest a =>
      intro i hi
      show ((S.settle _ a false).hw i).length ≤ t + 1
      rw [settle_hw]
      unfold S.wRested
      split
      · show (up s.hw a (s.hw a ++ [s.held a]) i).length ≤ t + 1
        by_cases q : i = a
        · subst q
          rw [up_same, List.length_append, List.length_singleton]
          have := h.wl i hi
          omega
        · rw [up_ne q]
          exact Nat.le_succ_of_le (h.wl i hi)
      · exact Nat.le_succ_of_le (h.wl i hi)
    | back a b =>
      intro i hi
      have e : (s.step (.back a b)).hw = s.hw := by
        show (S.settle _ a _).hw = _
        rw [settle_hw]
        rfl
      rw [e]
      exact Nat.le_succ_of_le (h.wl i hi)
    | home a =>
      intro i hi
      show (up s.hw a (s.hw a).tail i).length ≤ t + 1
      by_cases q : i = a
      · subst q
        rw [up_same, List.length_tail]
        have := h.wl i hi
        omega
      · rw [up_ne q]
        exact Nat.le_succ_of_le (h.wl i hi)
    | pass =>
      intro i hi
      have e : (s.step .pass).hw = s.hw := by
        show s.passed.hw = s.hw
        unfold S.passed
        split <;> rfl
      rw [e]
      exact Nat.le_succ_of_le (h.wl i hi)
  · have key : ∀ {a b : Nat} {l : List Wt}, a ≠ b → ∀ i, up2 s.rows a b l i i = [] := fun hne i => by
      rw [up2_ne (by omega)]
      exact h.rd i
    cases a with
    | send a b => exact key hc.1.2.2
    | take a b =>
      have e : (s.step (.take a b)).rows = up2 s.rows a b (s.rows a b).tail := by
        show (S.treeTaken _ a b).rows = _
        unfold S.treeTaken
        split <;> rfl
      rw [e]
      exact key hc.1.2.2
    | rest a =>
      have e : (s.step (.rest a)).rows = s.rows := by
        show (S.settle _ a false).rows = _
        rw [settle_rows]
        unfold S.wRested
        split <;> rfl
      rw [e]
      exact h.rd
    | back a b =>
      have e : (s.step (.back a b)).rows = s.rows := by
        show (S.settle _ a _).rows = _
        rw [settle_rows]
        rfl
      rw [e]
      exact h.rd
    | home a => exact h.rd
    | pass =>
      have e : (s.step .pass).rows = s.rows := by
        show s.passed.rows = s.rows
        unfold S.passed
        split <;> rfl
      rw [e]
      exact h.rd
/-! ### sums over roads -/
def sumL {α : Type} (l : List α) (f : α → Int) : Int := (l.map f).sum
theorem sumL_app {α : Type} {l m : List α} {f : α → Int} : sumL (l ++ m) f = sumL l f + sumL m f := by simp [sumL]
theorem sumL_cons {α : Type} {a : α} {l : List α} {f : α → Int} : sumL (a :: l) f = f a + sumL l f := by simp [sumL]
theorem sumL_range {n : Nat} {f : Nat → Int} : sumL (List.range n) f = sumZ n f := by
  induction n with
  | zero => rfl
  | succ n ih =>
    rw [List.range_succ, sumL_app, ih]
    show _ + sumL [n] f = sumZ n f + f n
    rw [sumL_cons]
    show _ + (f n + 0) = _
    omega
def roadsTo (n i : Nat) : List (Nat × Nat) := (List.range i).flatMap fun i => ((List.range n).filter fun j => decide (i ≠ j)).map fun j => (i, j)
theorem roadsTo_succ {n i : Nat} : roadsTo n (i + 1) = roadsTo n i ++ ((List.range n).filter fun j => decide (i ≠ j)).map fun j => (i, j) := by
  unfold roadsTo
  rw [List.range_succ, List.flatMap_append]
  simp
theorem sumL_row {a n : Nat} {f : Nat × Nat → Int} : sumL (((List.range n).filter fun j => decide (a ≠ j)).map fun j => (a, j)) f = sumZ n fun b => if a = b then 0 else f (a, b) := by
  induction n with
  | zero => rfl
  | succ n ih =>
    rw [List.range_succ, List.filter_append, List.map_append, sumL_app, ih]
    show _ = sumZ n _ + (if a = n then 0 else f (a, n))
    by_cases e : a = n
    · subst e
      rw [if_pos rfl]
      simp [sumL]
    · rw [if_neg e]
      simp [sumL, e]
theorem sumL_roads {n : Nat} {f : Nat × Nat → Int} : sumL (roads n) f = sum2 n fun a b => if a = b then 0 else f (a, b) := by
  have key : ∀ i, sumL (roadsTo n i) f = sumZ i fun a => sumZ n fun b => if a = b then 0 else f (a, b) := by
    intro i
    induction i with
    | zero => rfl
    | succ i ih =>
      rw [roadsTo_succ, sumL_app, ih, sumL_row]
      rfl
  exact key n
theorem sv_flat {α : Type} {l : List α} {g : α → List Wt} : sv (l.flatMap g) = sumL l fun x => sv (g x) := by
  induction l with
  | nil => rfl
  | cons a l ih => rw [List.flatMap_cons, sv_app, ih, sumL_cons]
/-- all weights of a hall, as they are found -/
def S.allW (s : S) : List Wt := (roads s.n).flatMap (fun r => s.rows r.1 r.2) ++ (List.range s.n).flatMap fun h => s.held h :: s.hw h
theorem allW_total {s : S} (rd : ∀ i, s.rows i i = []) : sv s.allW = s.total := by
  unfold S.allW S.total
  rw [sv_app, sv_flat, sv_flat, sumL_roads, sumL_range]
  have e1 : sum2 s.n (fun a b => if a = b then 0 else sv (s.rows (a, b).1 (a, b).2)) = sum2 s.n fun i j => sv (s.rows i j) := sum2_congr fun i j _ _ => by
    by_cases e : i = j
    · subst e
      rw [if_pos rfl, rd i]
      rfl
    · rw [if_neg e]
  have e2 : sumZ s.n (fun h => sv (s.held h :: s.hw h)) = sumZ s.n (fun i => wv (s.held i)) + sumZ s.n fun i => sv (s.hw i) := by
    rw [← sumZ_add]
    exact sumZ_congr fun i _ => sv_cons
  rw [e1, e2]
  omega
theorem allW_mem {s : S} {P : Wt → Prop} (h : AllW P s) : ∀ w ∈ s.allW, P w := by
  intro w hw
  rcases List.mem_append.mp hw with q | q
  · obtain ⟨r, hr, hw⟩ := List.mem_flatMap.mp q
    have := mem_roads.mp hr
    exact h.r r.1 r.2 this.1 this.2.1 w hw
  · obtain ⟨i, hi, hw⟩ := List.mem_flatMap.mp q
    have hi := List.mem_range.mp hi
    rcases List.mem_cons.mp hw with rfl | hw
    · exact h.h i hi
    · exact h.w i hi w hw
end QH

/-! What the law's common helpers do. -/
namespace QH
open PySem PySem.Spec PyProof.Rows L2 Evl
section
variable {K : PySem.W.Frag} {Z : Addr → Prop} {σ : L2.St} {H H' : Hp} {ta tb tc te tv : TE} {t u : TT} {x y z v : V} {a C dx p c : Addr} {A : Ad} {s : S} {D : Ends} {j : Nat} {w : Wt} {P : V → Hp → Prop}
/-- if t: .. (no else), then the rest -/
theorem s_if1 {b : Bool} {tu rest : TS} (h : EvT t σ H b) (h1 : b = true → ∀ H1, Ex H H1 → tu { D with nx := rest D } σ H1) (h2 : b = false → ∀ H1, Ex H H1 → rest D σ H1) : tSeq (tIfS t tu tNext) rest D σ H := s_if h h1 h2
theorem cell_get {ns : List Int} {k : Nat} (h : k < ns.length) : (ns.map V.int)[k]? = some (.int (cell ns k)) := by
  rw [List.getElem?_map, List.getElem?_eq_getElem h]
  unfold cell
  rw [List.getD_eq_getElem?_getD, List.getElem?_eq_getElem h]
  rfl
theorem cell_out {ns : List Int} {k : Nat} (h : ¬ k < ns.length) : cell ns k = 0 := by
  unfold cell
  rw [List.getD_eq_getElem?_getD, List.getElem?_eq_none (by omega)]
  rfl
theorem pur_l_cell (T : TxtK K) : ∀ vs H Q E, sp_l_cell K vs H Q E → t_l_cell K { nx := fun _ H' => Q .non H', rt := Q } (start N_l_cell vs) H := by
  rintro vs H Q E ⟨a, ns, k, rfl, hS, q⟩
  show t_l_cell K _ [some (.ref a), some (.int k)] H
  unfold t_l_cell
  refine s_if1 (et_test (ev_op (ev_var rfl) (ev_len (ev_var rfl) hS) rv_lt)) (fun b H1 e1 => ?_) (fun b H1 e1 => ?_)
  · have hk : k < ns.length := by have := of_decide_eq_true b; rw [List.length_map] at this; omega
    exact s_ret (ev_op (ev_var rfl) (ev_var rfl) (rv_ixL (ex_l e1 hS) (atI_nat (cell_get hk)))) fun H2 e2 => q H2 (e1.trans e2)
  · have hk : ¬ k < ns.length := by have := of_decide_eq_false b; rw [List.length_map] at this; omega
    refine s_ret ev_c fun H2 e2 => ?_
    have := q H2 (e1.trans e2)
    rw [cell_out hk] at this
    exact this
theorem pur_l_mix (T : TxtK K) : ∀ vs H Q E, sp_l_mix K vs H Q E → t_l_mix K { nx := fun _ H' => Q .non H', rt := Q } (start N_l_mix vs) H := by
  rintro vs H Q E ⟨c, p, m, rfl, hp, hm, q⟩
  show t_l_mix K _ [some (.int c), some (.int p), some (.int m)] H
  unfold t_l_mix
  exact s_ret (ev_op (ev_op (ev_op (ev_var rfl) ev_c (rv_mul (.inr ⟨by decide, by decide⟩))) (ev_var rfl) (rv_mod hp)) (ev_var rfl) (rv_mod hm)) q
theorem spv_cell {a : Addr} {ns : List Int} {k : Nat} (hS : SqL K H a (ns.map V.int)) : SpV (sp_l_cell K) [.ref a, .int k] H (.int (cell ns k)) := fun H1 e Q q E => ⟨a, ns, k, rfl, ex_l e hS, fun H' e' => q H' e'⟩
theorem spv_mix {c p m : Int} (hp : 0 < p) (hm : 0 < m) : SpV (sp_l_mix K) [.int c, .int p, .int m] H (.int (mix c p m)) := fun H1 e Q q E => ⟨c, p, m, rfl, hp, hm, fun H' e' => q H' e'⟩
theorem spv_many {a : Addr} {ns : List Int} (hS : SqL K H a (ns.map V.int)) : SpV (sp_l_many K) [.ref a] H (.int (many ns)) := fun H1 e Q q E => ⟨a, ns, rfl, ex_l e hS, fun H' e' => q H' e'⟩
theorem pur_l_many (T : TxtK K) : ∀ vs H Q E, sp_l_many K vs H Q E → t_l_many K { nx := fun _ H' => Q .non H', rt := Q } (start N_l_many vs) H := by
  rintro vs H Q E ⟨a, ns, rfl, hS, q⟩
  show t_l_many K _ [some (.ref a)] H
  unfold t_l_many
  exact s_ret (ev_op ev_c (ev_call (vs := [.int (cell ns 0), .int 9973, .int 5]) (ea_cons (ev_call (vs := [.ref a, .int (0 : Nat)]) (ea_cons (ev_var rfl) (ea_cons ev_c ea_nil)) (spv_cell hS)) (ea_cons ev_c (ea_cons ev_c ea_nil))) (spv_mix (by decide) (by decide))) rv_add) q
/-! ### roads -/
theorem u_bm {T : String} {r : V → List V → Hp → VK → Prop} {to : TE} {tg : TA} {Q : VK} (h : to σ H fun x H1 => tyV K T x H1 ∧ tg σ H1 fun xs H2 => r x xs H2 Q) : tBM K T r to tg σ H Q := h
theorem u_drop (h : te σ H fun _ H1 => D.nx σ H1) : tDrop te D σ H := h
theorem u_cons1 {Q : List V → Hp → Prop} (h : te σ H fun x H1 => Q [x] H1) : tCons te tNil σ H Q := h
theorem eu_cat {xs ys : List V} (ha : EvU ta σ H xs) {q : Addr} (hb : Ev tb σ H (.ref q)) (hq : H q = some (.tup ys)) (h1 : xs ≠ []) (h2 : ys ≠ []) (hl : xs.length + ys.length ≤ 1000) : EvU (tOp (rCatT K) ta tb) σ H (xs ++ ys) := fun H1 e Q k =>
  ha H1 e _ fun p H2 n e2 hp => hb H2 (e.trans e2) _ fun H3 e3 => ⟨p, q, xs, ys, rfl, rfl, st_of (e3 _ _ hp), st_of ((e.trans (e2.trans e3)) _ _ hq), h1, Nat.le_trans hl (by decide), fun z => absurd z h2, fun _ r hr => k r _ (fresh_back (e2.trans e3) hr) ((e2.trans e3).trans (Ex.new hr)) upd_same⟩
theorem pur_l_roads (T : TxtK K) : ∀ vs H Q E, sp_l_roads K vs H Q E → t_l_roads K { nx := fun _ H' => Q .non H', rt := Q } (start N_l_roads vs) H := by
  rintro vs H Q E ⟨n, rfl, hn, k⟩
  show t_l_roads K _ [some (.int n), none, none, none] H
  unfold t_l_roads
  refine s_asgL (xs := []) (el_lst ea_nil (Nat.zero_le _)) fun q H1 nq e1 hq => ?_
  refine s_forR1 (n := (n : Int)) (ea_cons (ev_var rfl) ea_nil) ⟨by omega, by omega⟩ (fun i σ' H' => ∃ us v, σ' = [some (.int n), some (.ref q), v, none] ∧ Ex H H' ∧ H' q = some (.lst us) ∧ us.length ≤ 6 * i ∧ Tups roadV H' us (roadsTo n i))
    (fun H2 e2 => ⟨[], none, rfl, e1.trans e2, e2 _ _ hq, Nat.zero_le _, trivial⟩) ?_ ?_
  · rintro i σ' H' hi ⟨us, v, rfl, ex, hu, hul, ht⟩
    have hin : i < n := by omega
    show tDrop (tBM K "list" rExtend (tVar 1) _) _ [some (.int n), some (.ref q), some (.int i), none] H'
    refine u_drop (u_bm ⟨_, rfl, Or.inl ⟨rfl, us, sq_of hu⟩, u_cons1 (u_evr (evr_cR1 (σ := [some (.int n), some (.ref q), some (.int i), none]) (α := Nat × Nat) (R := TupR roadV) (n := n) (b := fun j => decide (i ≠ j)) (x := fun j => (i, j)) stb_tup (ev_var rfl) (by omega) (fun _ => rfl)
      (fun j H2 _ _ => et_test (ev_is (ev_neI (ev_var rfl) (ev_var rfl)) (congrArg V.bl (decide_eq_decide.mpr (by omega))))) (fun j H2 _ _ _ => evr_of_u (eu_pair (ev_var rfl) (ev_var rfl)) rfl)) ?_)⟩)
    rintro _ H2 e2 ⟨r, zs, rfl, nr, hr, hz⟩
    have hzl : zs.length ≤ 6 := by
      rw [hz.len, List.length_map]
      have := List.length_filter_le (fun j => decide (i ≠ j)) (List.range n)
      rw [List.length_range] at this
      omega
    refine ⟨q, r, us, zs, rfl, rfl, e2 _ _ hu, hr, Nat.le_trans (show _ ≤ 1000 by omega) (by decide), us ++ zs, some (.int i), rfl, (ex.trans e2).mut nq, upd_same, by rw [List.length_append]; omega, ?_⟩
    rw [roadsTo_succ]
    exact ((ht.mono stb_tup e2).app hz).imp fun _ _ r => stb_tup.lst (e2 _ _ hu) r
  · rintro σ' H' ⟨us, v, rfl, ex, hu, hul, ht⟩
    have en : ((n : Int)).toNat = n := by omega
    rw [en] at ht
    exact s_ret (ev_var rfl) fun H2 e2 => k H2 q us (ex.trans e2) nq (e2 _ _ hu) (ht.mono stb_tup e2)
/-! ### choices -/
theorem evr_roads {n : Nat} (h : Ev ta σ H (.int n)) (hn : n ≤ 6) : EvR (tCall (sp_l_roads K) [] E0 (tCons ta tNil)) σ H (CompR (TupR roadV) H (roads n)) :=
  evr_call (ea_cons h ea_nil) fun H1 e Q q E => ⟨n, rfl, hn, fun H' r us e' nr hr ht => q _ H' e' ⟨r, us, rfl, fresh_back e nr, hr, ht⟩⟩
theorem eu_working (h : HallAt K Z H A s) (hn : s.n ≤ 6) (ho : Ev ta σ H (.ref A.p)) : EvU (tMeth (He.ga K "Hall") "working" (sp_Hall_working K) [] E0 ta tNil) σ H (s.working.map fun (i : Nat) => V.int (i : Int)) := fun H1 e Q q =>
  ho H1 e _ fun H2 e2 => ⟨A.p, A.dx, _, rfl, (e.trans e2) _ _ h.p, by kernel_rfl, ⟨A, s, Z, rfl, h.mono (e.trans e2), hn, fun H' r e' nr hr => q r H' (fresh_back e2 nr) (e2.trans e') hr⟩⟩
theorem working_flat {s : S} : (s.working.map fun (i : Nat) => V.int (i : Int)).all flatV = true := by
  rw [List.all_eq_true]
  intro v hv
  obtain ⟨i, _, rfl⟩ := List.mem_map.mp hv
  rfl
theorem inV_ints {l : List Nat} {a : Nat} : inV (.int a) (l.map fun (i : Nat) => V.int (i : Int)) = decide (a ∈ l) := by
  unfold inV
  rw [Bool.eq_iff_iff, List.any_eq_true]
  simp only [List.mem_map, decide_eq_true_eq]
  constructor
  · rintro ⟨v, ⟨i, hi, rfl⟩, e⟩
    have : ((i : Int) == (a : Int)) = true := e
    have : (i : Int) = a := by simpa using this
    have : i = a := by omega
    exact this ▸ hi
  · intro h
    exact ⟨_, ⟨a, h, rfl⟩, show ((a : Int) == (a : Int)) = true by simp⟩
theorem in_working {s : S} {a : Nat} (h : a < s.n) : decide (a ∈ s.working) = s.busy a := by
  rw [Bool.eq_iff_iff, decide_eq_true_eq, S.working_mem]
  exact ⟨fun z => z.2, fun z => ⟨h, z⟩⟩
theorem et_working (h : HallAt K Z H A s) (hn : s.n ≤ 6) (ho : Ev tb σ H (.ref A.p)) {a : Nat} (ha : a < s.n) (hx : Ev ta σ H (.int a)) : EvT (tTest (tOp (rIn K false) ta (tMeth (He.ga K "Hall") "working" (sp_Hall_working K) [] E0 tb tNil))) σ H (s.busy a) :=
  et_test (ev_is (ev_inU hx (eu_working h hn ho) rfl working_flat) (by rw [inV_ints, in_working ha]))
theorem et_not_working (h : HallAt K Z H A s) (hn : s.n ≤ 6) (ho : Ev tb σ H (.ref A.p)) {a : Nat} (ha : a < s.n) (hx : Ev ta σ H (.int a)) : EvT (tTest (tOp (rIn K true) ta (tMeth (He.ga K "Hall") "working" (sp_Hall_working K) [] E0 tb tNil))) σ H (!s.busy a) :=
  et_test (ev_is (ev_niU hx (eu_working h hn ho) rfl working_flat) (by rw [inV_ints, in_working ha]))
theorem ev_works (h : HallAt K Z H A s) {i j : Nat} (ho : Ev ta σ H (.ref A.p)) (hi : Ev tb σ H (.int i)) (hj : Ev tc σ H (.int j)) (hl : Two s.n i j) :
    Ev (tMeth (He.ga K "Hall") "works" (sp_Hall_works K) [] E0 ta (tCons tb (tCons tc tNil))) σ H (.int ((s.rows i j).length : Nat)) :=
  ev_meth ho h.p (by kernel_rfl) (ea_cons hi (ea_cons hj ea_nil)) (spv_ask2 (rcv := (·.p)) (val := fun s a b => .int ((s.rows a b).length : Nat)) h hl)
theorem ev_lenWH (h : HallAt K Z H A s) {i : Nat} (ho : Ev ta σ H (.ref A.p)) (hi : Ev tb σ H (.int i)) (hl : i < s.n) :
    Ev (tCB (rLenS K) (tCons (tMeth (He.ga K "Hall") "weights_home" (sp_Hall_weights_home K) [] E0 ta (tCons tb tNil)) tNil)) σ H (.int ((s.hw i).length : Nat)) := fun H1 e Q q =>
  ho H1 e _ fun H2 e2 => ⟨A.p, A.dx, _, rfl, (e.trans e2) _ _ h.p, by kernel_rfl, hi H2 (e.trans e2) _ fun H3 e3 => ⟨A, s, Z, i, rfl, h.mono (e.trans (e2.trans e3)), hl, fun H' r us e' nr hr hw => ⟨r, us, rfl, Or.inr (st_of hr), by rw [hw.len]; exact q H' (e2.trans (e3.trans e'))⟩⟩⟩
theorem eu_token (h : HallAt K Z H A s) (ho : Ev ta σ H (.ref A.p)) : EvU (tMeth (He.ga K "Hall") "token" (sp_Hall_token K) [] E0 ta tNil) σ H [.int s.place, .int s.sum, colS s.tb] := fun H1 e Q q =>
  ho H1 e _ fun H2 e2 => ⟨A.p, A.dx, _, rfl, (e.trans e2) _ _ h.p, by kernel_rfl, ⟨A, s, Z, rfl, h.mono (e.trans e2), fun H' r e' nr hr => q r H' (fresh_back e2 nr) (e2.trans e') hr⟩⟩
theorem ev_tix {xs : List V} {q : Addr} {i : Nat} (h : Ev ta σ H (.ref q)) (hq : H q = some (.tup xs)) (hi : xs[i]? = some v) : Ev (tOp (rIxT K) ta (tC (.int i))) σ H v := ev_op h ev_c (rv_ixT (st_of hq) (atI_nat hi))
/-- an item of a tuple just made -/
theorem ev_tixU {xs : List V} {i : Nat} (h : EvU ta σ H xs) (hi : xs[i]? = some v) : Ev (tOp (rIxT K) ta (tC (.int i))) σ H v := fun H1 e Q k =>
  h H1 e _ fun p H2 n e2 hp => ⟨p, xs, (i : Int), v, rfl, rfl, st_of hp, atI_nat hi, k H2 e2⟩
theorem roads_get {n i : Nat} {r : Nat × Nat} (h : (roads n)[i]? = some r) : Two n r.1 r.2 := mem_roads.mp (List.mem_of_getElem? h)
theorem roads_len {n : Nat} (hn : n ≤ 6) : (roads n).length ≤ 1000 := by
  have : ∀ i, (roadsTo n i).length ≤ n * i := by
    intro i
    induction i with
    | zero => exact Nat.le_refl _
    | succ i ih =>
      rw [roadsTo_succ, List.length_append, List.length_map]
      have := List.length_filter_le (fun j => decide (i ≠ j)) (List.range n)
      rw [List.length_range] at this
      rw [Nat.mul_succ]
      omega
  have h := this n
  have : n * n ≤ 36 := Nat.mul_le_mul hn hn
  exact Nat.le_trans h (by omega)
theorem getD_of {β : Type} {l : List β} {i : Nat} {d y : β} (h : l[i]? = some y) : l.getD i d = y := by
  rw [List.getD_eq_getElem?_getD, h]
  rfl
/-- a comprehension over the roads -/
theorem evr_roadComp {n i : Nat} {q : Addr} {us : List V} {kind : Str} {b : Nat × Nat → Bool} {f : Nat × Nat → Act} {σ : L2.St} (hn : n ≤ 6) (hs : ∀ v, wipe ((wipe σ [i]).set i (some v)) [i] = wipe σ [i]) (hl : Ev ta σ H (.ref q)) (hq : H q = some (.lst us)) (hr : Tups roadV H us (roads n))
    (hσ : ∀ v, ((wipe σ [i]).set i (some v))[i]? = some (some v)) (hf : ∀ r, actV (f r) = .str kind :: roadV r)
    (ht : ∀ (v : Addr) (r : Nat × Nat) H1, Ex H H1 → Two n r.1 r.2 → H1 v = some (.tup (roadV r)) → EvT t ((wipe σ [i]).set i (some (.ref v))) H1 (b r)) :
    EvR (tLc (iList K ta) (gName i) t (tOp (rCatT K) (tTup (tCons (tC (.str kind)) tNil)) (tVar i)) [i]) σ H (CompR (TupR actV) H (((roads n).filter b).map f)) := by
  rw [← range_filter ((0, 0) : Nat × Nat) b f (roads n)]
  refine evr_cL (RS := TupR roadV) (ys := roads n) (si := fun v _ => (wipe σ [i]).set i (some v)) stb_tup stb_tup ?_ (Nat.le_trans (roads_len hn) (by decide)) (fun v _ => hs v) (fun v y H1 Q _ _ q => q) ?_ ?_
  · exact fun H1 e Q k => hl H1 e _ fun H2 e2 => k _ H2 e2 ⟨q, us, rfl, (e.trans e2) _ _ hq, hr.mono stb_tup (e.trans e2)⟩
  · rintro k _ y H1 e hy ⟨v, rfl, hv⟩
    rw [getD_of hy]
    exact ht v y H1 e (roads_get hy) hv
  · rintro k _ y H1 e hy ⟨v, rfl, hv⟩ _
    rw [getD_of hy]
    exact evr_of_u (eu_cat (eu_tup (ea_cons ev_c ea_nil) (by show 1 ≤ 100000; decide)) (ev_var (hσ _)) hv (List.cons_ne_nil _ _) (List.cons_ne_nil _ _) (by show 1 + 2 ≤ 1000; decide)) (hf y).symm
theorem pur_l_choices (T : TxtK K) : ∀ vs H Q E, sp_l_choices K vs H Q E → t_l_choices K { nx := fun _ H' => Q .non H', rt := Q } (start N_l_choices vs) H := by
  rintro vs H Q E ⟨A, s, Z, kd, rfl, h, g, k⟩
  show t_l_choices K _ [some (.ref A.p), some (.int s.n), some (.int kd), none, none, none] H
  unfold t_l_choices
  refine s_asgR (evr_roads (ev_var rfl) g.n6) ?_
  rintro _ H1 e1 ⟨q, us, rfl, nq, hq, hr⟩
  have fin : ∀ {H2 : Hp} {l : List Act}, Ex H H2 → s.choices kd = l → ∀ v H3, Ex H2 H3 → CompR (TupR actV) H2 l v H3 → Q v H3 := by
    rintro H2 l e2 el _ H3 e3 ⟨r, ws, rfl, nr, hr, hw⟩
    exact k H3 r ws (e2.trans e3) (fresh_back e2 nr) hr (by rw [el]; exact hw)
  refine s_if1 (et_test (ev_op (ev_var rfl) ev_c rv_lt)) (fun b H2 e2 => ?_) (fun b H2 e2 => ?_)
  · have h2 := h.mono (e1.trans e2)
    have c : kd < 3 := of_decide_eq_true b
    exact s_retR (evr_roadComp (n := s.n) (i := 5) (b := fun r => s.busy r.1) (f := fun r => .send r.1 r.2) g.n6 (fun _ => rfl) (ev_var rfl) (e2 _ _ hq) (hr.mono stb_tup e2) (fun _ => rfl) (fun _ => rfl)
      (fun v r H3 e3 hr hv => et_working (h2.mono e3) g.n6 (ev_var rfl) hr.1 (ev_tix (i := 0) (ev_var rfl) hv rfl))) (fin (e1.trans e2) (by unfold S.choices; rw [if_pos c]))
  have c1 : ¬ kd < 3 := of_decide_eq_false b
  refine s_if1 (et_test (ev_op (ev_var rfl) ev_c rv_lt)) (fun b H3 e3 => ?_) (fun b H3 e3 => ?_)
  · have h2 := h.mono (e1.trans (e2.trans e3))
    have c : kd < 6 := of_decide_eq_true b
    exact s_retR (evr_roadComp (n := s.n) (i := 5) (b := fun r => decide (0 < (s.rows r.1 r.2).length)) (f := fun r => .take r.1 r.2) g.n6 (fun _ => rfl) (ev_var rfl) ((e2.trans e3) _ _ hq) (hr.mono stb_tup (e2.trans e3)) (fun _ => rfl) (fun _ => rfl)
      (fun v r H4 e4 hr hv => et_test (ev_is (ev_op (ev_works (h2.mono e4) (ev_var rfl) (ev_tix (i := 0) (ev_var rfl) hv rfl) (ev_tix (i := 1) (ev_var rfl) hv rfl) hr) ev_c rv_gt) (congrArg V.bl (decide_eq_decide.mpr (by omega)))))) (fin (e1.trans (e2.trans e3)) (by unfold S.choices; rw [if_neg c1, if_pos c]))
  have c2 : ¬ kd < 6 := of_decide_eq_false b
  have e13 := e1.trans (e2.trans e3)
  refine s_if1 (et_test (ev_op (ev_var rfl) ev_c rv_lt)) (fun b H4 e4 => ?_) (fun b H4 e4 => ?_)
  · have h2 := h.mono (e13.trans e4)
    have c : kd < 9 := of_decide_eq_true b
    have wl : s.working.length ≤ 1000 := by
      have := List.length_filter_le (fun h => s.busy h) (List.range s.n)
      rw [List.length_range] at this
      have := g.n6
      unfold S.working
      omega
    refine s_retR (evr_cT (α := Act) (R := TupR actV) (RS := fun (i : Nat) v _ => v = .int (i : Int)) (ys := s.working) (b := fun _ => true) (x := fun i => .rest (s.working.getD i 0)) (si := fun v _ => (wipe [some (.ref A.p), some (.int s.n), some (.int kd), some (.ref q), none, none] [4]).set 4 (some v)) stb_tup ⟨fun _ h => h, fun _ h => h⟩ ?_ (Nat.le_trans wl (by decide)) (fun _ _ => rfl) (fun v y H1 Q _ _ q => q) (fun _ _ _ _ _ _ _ => et_yes) ?_) (fin (e13.trans e4) ?_)
    · refine fun H5 e5 Q k => eu_working h2 g.n6 (ev_var rfl) H5 e5 _ fun p H6 n e6 hp => k _ H6 e6 ⟨p, _, rfl, hp, ?_⟩
      generalize s.working = l
      induction l with
      | nil => trivial
      | cons a l ih => exact ⟨rfl, ih⟩
    · rintro i _ y H5 e5 hy rfl _
      rw [getD_of hy]
      exact evr_of_u (eu_tup (ea_cons ev_c (ea_cons (ev_var rfl) ea_nil)) (by show 2 ≤ 100000; decide)) rfl
    · unfold S.choices
      rw [if_neg c1, if_neg c2, if_pos c]
      have := range_filter 0 (fun _ => true) Act.rest s.working
      refine (this.trans ?_).symm
      rw [List.filter_eq_self.mpr (fun _ _ => rfl)]
  have c3 : ¬ kd < 9 := of_decide_eq_false b
  refine s_if1 (et_test (ev_op (ev_var rfl) ev_c rv_lt)) (fun b H5 e5 => ?_) (fun b H5 e5 => ?_)
  · have h2 := h.mono (e13.trans (e4.trans e5))
    have c : kd < 11 := of_decide_eq_true b
    exact s_retR (evr_roadComp (n := s.n) (i := 5) (b := fun r => decide (0 < s.slips r.1 r.2)) (f := fun r => .back r.1 r.2) g.n6 (fun _ => rfl) (ev_var rfl) ((e2.trans (e3.trans (e4.trans e5))) _ _ hq) (hr.mono stb_tup (e2.trans (e3.trans (e4.trans e5)))) (fun _ => rfl) (fun _ => rfl)
      (fun v r H6 e6 hr hv => et_test (ev_op (ev_receipts (h2.mono e6) (ev_var rfl) (ev_tix (i := 0) (ev_var rfl) hv rfl) (ev_tix (i := 1) (ev_var rfl) hv rfl) hr) ev_c rv_gt))) (fin (e13.trans (e4.trans e5)) (by unfold S.choices; rw [if_neg c1, if_neg c2, if_neg c3, if_pos c]))
  have c4 : ¬ kd < 11 := of_decide_eq_false b
  have e15 := e13.trans (e4.trans e5)
  refine s_if1 (et_test (ev_eqI (ev_var rfl) ev_c)) (fun b H6 e6 => ?_) (fun b H6 e6 => ?_)
  · have h2 := h.mono (e15.trans e6)
    have c : kd = 11 := of_decide_eq_true b
    refine s_retR (evr_cR2 (α := Act) (R := TupR actV) (lo := 1) (n := s.n) (b := fun i => decide (0 < (s.hw (i + 1)).length)) (x := fun i => .home (i + 1)) stb_tup ev_c (ev_var rfl) (by decide) (by have := g.n6; omega) (fun _ => rfl)
      (fun i H7 e7 hi => ?_) (fun i H7 e7 hi _ => ?_)) (fin (e15.trans e6) ?_)
    · have e0 : 1 + i = i + 1 := Nat.add_comm _ _
      rw [e0]
      exact et_test (ev_is (ev_op (ev_lenWH (h2.mono e7) (ev_var rfl) (ev_var rfl) (by omega)) ev_c rv_gt) (congrArg V.bl (decide_eq_decide.mpr (by omega))))
    · have e0 : 1 + i = i + 1 := Nat.add_comm _ _
      rw [e0]
      exact evr_of_u (eu_tup (ea_cons ev_c (ea_cons (ev_var rfl) ea_nil)) (by show 2 ≤ 100000; decide)) rfl
    · unfold S.choices
      rw [if_neg c1, if_neg c2, if_neg c3, if_neg c4, if_pos c, List.filter_map, List.map_map]
      rfl
  · have h2 := h.mono (e15.trans e6)
    have c : ¬ kd = 11 := of_decide_eq_false b
    refine s_retR (evr_cL (α := Act) (R := TupR actV) (RS := fun (_ : Unit) v _ => v = .int s.place) (ys := [()]) (b := fun _ => !s.busy s.place) (x := fun _ => .pass) (si := fun v _ => (wipe [some (.ref A.p), some (.int s.n), some (.int kd), some (.ref q), none, none] [4]).set 4 (some v)) stb_tup ⟨fun _ h => h, fun _ h => h⟩ ?_ (by decide) (fun _ _ => rfl) (fun v y H1 Q _ _ q => q) ?_ ?_) (fin (e15.trans e6) ?_)
    · exact fun H7 e7 Q k => el_lst (ea_cons (ev_tixU (i := 0) (eu_token h2 (ev_var rfl)) rfl) ea_nil) (by show 1 ≤ 100000; decide) H7 e7 _ fun p H8 n e8 hp => k _ H8 e8 ⟨p, _, rfl, hp, rfl, trivial⟩
    · rintro i _ y H7 e7 hy rfl
      exact et_not_working (h2.mono e7) g.n6 (ev_var rfl) g.pl (ev_var rfl)
    · rintro i _ y H7 e7 hy rfl _
      exact evr_of_u (eu_tup (ea_cons ev_c ea_nil) (by show 1 ≤ 100000; decide)) rfl
    · unfold S.choices
      rw [if_neg c1, if_neg c2, if_neg c3, if_neg c4, if_neg c]
      cases s.busy s.place <;> rfl
end
end QH

/-! What the law's common helpers do: an act is drawn, an act is done. -/
namespace QH
open PySem PySem.Spec PyProof.Rows L2 Evl
section
variable {K : PySem.W.Frag} {Z : Addr → Prop} {σ : L2.St} {H H' : Hp} {ta tb tc te tv : TE} {t u : TT} {x y z v : V} {a C dx p c : Addr} {A : Ad} {s : S} {D : Ends} {j : Nat} {w : Wt} {P : V → Hp → Prop}
theorem et_tr {q : Addr} {us : List V} (h : Ev ta σ H (.ref q)) (hq : H q = some (.lst us)) : EvT (tTr K ta) σ H (!us.isEmpty) := fun H1 e Q k => h H1 e _ fun H2 e2 => ⟨_, Or.inl ⟨us, sq_of ((e.trans e2) _ _ hq), rfl⟩, k H2 e2⟩
theorem u_ret (h : te σ H D.rt) : tRet te D σ H := h
theorem u_methA {sp : Sp} {tg : TA} {vs : List V} {fs : List (Str × V)} {m : Str} {dx : Addr} {Q : VK} (h : Ev ta σ H (.ref a)) (ho : H a = some (.ins C dx fs)) (hm : fs.lookup m = none) (hv : EvA tg σ H vs) (k : ∀ H1, Ex H H1 → sp (.ref a :: (vs ++ [])) H1 Q E0) :
    tMeth C m sp [] E0 ta tg σ H Q := h H (Ex.refl H) _ fun H1 e1 => ⟨a, dx, fs, rfl, e1 _ _ ho, hm, hv H1 e1 _ fun H2 e2 => k H2 (e1.trans e2)⟩
theorem evr_choices (h : HallAt K Z H A s) (g : Good s) {k : Int} (h1 : Ev ta σ H (.ref A.p)) (h2 : Ev tb σ H (.int s.n)) (h3 : Ev tc σ H (.int k)) : EvR (tCall (sp_l_choices K) [] E0 (tCons ta (tCons tb (tCons tc tNil)))) σ H (CompR (TupR actV) H (s.choices k)) :=
  evr_call (ea_cons h1 (ea_cons h2 (ea_cons h3 ea_nil))) fun H1 e Q q E => ⟨A, s, Z, k, rfl, h.mono e, g, fun H' r us e' nr hr ht => q _ H' e' ⟨r, us, rfl, fresh_back e nr, hr, ht⟩⟩
theorem ev_mix {c p m : Int} (h1 : Ev ta σ H (.int c)) (h2 : Ev tb σ H (.int p)) (h3 : Ev tc σ H (.int m)) (hp : 0 < p) (hm : 0 < m) : Ev (tCall (sp_l_mix K) [] E0 (tCons ta (tCons tb (tCons tc tNil)))) σ H (.int (mix c p m)) :=
  ev_call (vs := [.int c, .int p, .int m]) (ea_cons h1 (ea_cons h2 (ea_cons h3 ea_nil))) (spv_mix hp hm)
theorem isEmpty_len {β γ : Type} {l : List β} {m : List γ} (h : l.length = m.length) : l.isEmpty = m.isEmpty := by
  cases l <;> cases m <;> first | rfl | cases h
theorem pur_l_act (T : TxtK K) : ∀ vs H Q E, sp_l_act K vs H Q E → t_l_act K { nx := fun _ H' => Q .non H', rt := Q } (start N_l_act vs) H := by
  rintro vs H Q E ⟨A, s, Z, c, rfl, h, g, k⟩
  show t_l_act K _ [some (.ref A.p), some (.int s.n), some (.int c), none] H
  unfold t_l_act
  refine s_asgR (evr_choices h g (ev_var rfl) (ev_var rfl) (ev_mix (ev_var rfl) ev_c ev_c (by decide) (by decide))) ?_
  rintro _ H1 e1 ⟨q, us, rfl, nq, hq, hr⟩
  -- behind the second draw
  have key : ∀ (H2 : Hp) (q : Addr) (us : List V), Ex H H2 → H2 q = some (.lst us) → Tups actV H2 us (s.some_ c) →
      tSeq (tIfS (tNot (tTr K (tVar 3))) (tRet (tC .non)) tNext) (tRet (tOp (rIxL K) (tVar 3) (tCall (sp_l_mix K) [] E0 (tCons (tVar 2) (tCons (tC (.int 9941)) (tCons (tCB (rLenS K) (tCons (tVar 3) tNil)) tNil))))))
        { nx := fun _ H' => Q .non H', rt := Q } [some (.ref A.p), some (.int s.n), some (.int c), some (.ref q)] H2 := by
    intro H2 q us e2 hq hr
    have hl := hr.len
    refine s_if1 (et_not (et_tr (ev_var rfl) hq)) (fun b H3 e3 => ?_) (fun b H3 e3 => ?_)
    · have e0 : s.some_ c = [] := by
        rw [isEmpty_len hl, Bool.not_not] at b
        exact List.isEmpty_iff.mp b
      refine s_ret ev_c fun H4 e4 => k H4 _ (e2.trans (e3.trans e4)) ?_
      have : s.pick c = none := by unfold S.pick; rw [if_pos e0]
      rw [this]
    · have e0 : s.some_ c ≠ [] := by
        rw [isEmpty_len hl, Bool.not_not] at b
        intro z
        rw [z] at b
        cases b
      have l0 : 0 < (s.some_ c).length := List.length_pos_iff.mpr e0
      have mb := mix_bounds (c := c) (p := 9941) (m := ((s.some_ c).length : Int)) (by decide) (by omega)
      obtain ⟨x, hx⟩ : ∃ x, (s.some_ c)[(mix c 9941 (s.some_ c).length).toNat]? = some x := ⟨_, List.getElem?_eq_getElem (by omega)⟩
      obtain ⟨v, hv, r, rfl, hr'⟩ := hr.get hx
      have hq3 := e3 _ _ hq
      have em : (us.length : Int) = ((s.some_ c).length : Int) := by rw [hl]
      refine s_ret (ev_op (ev_var rfl) (ev_mix (ev_var rfl) ev_c (ev_is (ev_len (ev_var rfl) (sq_of hq3)) (congrArg V.int em)) (by decide) (by omega)) (rv_ixL (v := .ref r) (sq_of hq3) ?_)) fun H4 e4 => k H4 _ (e2.trans (e3.trans e4)) ?_
      · have e5 : mix c 9941 ((s.some_ c).length : Int) = (((mix c 9941 ((s.some_ c).length : Int)).toNat : Nat) : Int) := by omega
        rw [e5]
        exact atI_nat hv
      · have : s.pick c = some x := by unfold S.pick; rw [if_neg e0]; exact hx
        rw [this]
        exact ⟨r, rfl, (e3.trans e4) _ _ hr'⟩
  have hl := hr.len
  refine s_if (et_not (et_tr (ev_var rfl) hq)) (fun b H2 e2 => ?_) (fun b H2 e2 => ?_)
  · have h2 := h.mono (e1.trans e2)
    refine s_asgR (evr_choices h2 g (ev_var rfl) (ev_var rfl) (ev_mix (ev_var rfl) ev_c ev_c (by decide) (by decide))) ?_
    rintro _ H3 e3 ⟨q3, us3, rfl, nq3, hq3, hr3⟩
    refine key H3 q3 us3 (e1.trans (e2.trans e3)) hq3 ?_
    have e0 : s.choices (mix c 9967 14) = [] := by
      rw [isEmpty_len hl, Bool.not_not] at b
      exact List.isEmpty_iff.mp b
    have : s.some_ c = s.choices (mix c 9949 14) := by unfold S.some_; rw [if_pos e0]
    rw [this]
    exact hr3
  · refine key H2 q us (e1.trans e2) (e2 _ _ hq) ?_
    have e0 : s.choices (mix c 9967 14) ≠ [] := by
      rw [isEmpty_len hl, Bool.not_not] at b
      intro z
      rw [z] at b
      cases b
    have : s.some_ c = s.choices (mix c 9967 14) := by unfold S.some_; rw [if_neg e0]
    rw [this]
    exact hr.mono stb_tup e2
/-- the act's first item is asked -/
theorem et_kind {q : Addr} {xs : List V} {k1 k2 : Str} {b : Bool} (h : Ev ta σ H (.ref q)) (hq : H q = some (.tup (.str k1 :: xs))) (hb : decide (V.str k1 = V.str k2) = b) : EvT (tTest (tOp rEq (tOp (rIxT K) ta (tC (.int 0))) (tC (.str k2)))) σ H b :=
  et_test (ev_is (ev_op (ev_tix (i := 0) h hq rfl) ev_c (rv_eq rfl)) (congrArg V.bl hb))
theorem s_ifF {tu rest : TS} (h : EvT t σ H false) (h2 : ∀ H1, Ex H H1 → rest D σ H1) : tSeq (tIfS t tu tNext) rest D σ H := s_if1 h (fun z => by cases z) fun _ => h2
theorem s_ifT {tu rest : TS} (h : EvT t σ H true) (h1 : ∀ H1, Ex H H1 → tu { D with nx := rest D } σ H1) : tSeq (tIfS t tu tNext) rest D σ H := s_if1 h (fun _ => h1) fun z => by cases z
theorem pur_l_do (T : TxtK K) : ∀ vs H Q E, sp_l_do K vs H Q E → t_l_do K { nx := fun _ H' => Q .non H', rt := Q } (start N_l_do vs) H := by
  rintro vs H Q E ⟨A, s, Z, q, act, rfl, h, g, can, hq, k⟩
  show t_l_do K _ [some (.ref A.p), some (.ref q)] H
  unfold t_l_do
  cases act with
  | send a b =>
    refine s_ifT (et_kind (ev_var rfl) hq (by decide +kernel)) fun H1 e1 => ?_
    have h1 := h.mono e1
    have hq1 := e1 _ _ hq
    exact u_ret (u_methA (ev_var rfl) h1.p (by kernel_rfl) (ea_cons (ev_tix (i := 1) (ev_var rfl) hq1 rfl) (ea_cons (ev_tix (i := 2) (ev_var rfl) hq1 rfl) ea_nil)) fun H2 e2 => ⟨A, s, Z, a, b, rfl, h1.mono e2, ⟨g, can⟩, fun H3 h3 k3 => k H3 h3 ((Kp.ex (e1.trans e2)).trans k3)⟩)
  | take a b =>
    refine s_ifF (et_kind (ev_var rfl) hq (by decide +kernel)) fun H0 e0 => ?_
    have h := h.mono e0
    have hq := e0 _ _ hq
    refine s_ifT (et_kind (ev_var rfl) hq (by decide +kernel)) fun H1 e1 => ?_
    have h1 := h.mono e1
    have hq1 := e1 _ _ hq
    exact u_ret (u_methA (ev_var rfl) h1.p (by kernel_rfl) (ea_cons (ev_tix (i := 1) (ev_var rfl) hq1 rfl) (ea_cons (ev_tix (i := 2) (ev_var rfl) hq1 rfl) ea_nil)) fun H2 e2 => ⟨A, s, Z, a, b, rfl, h1.mono e2, ⟨g, can⟩, fun H3 h3 k3 => k H3 h3 ((Kp.ex (e0.trans (e1.trans e2))).trans k3)⟩)
  | rest a =>
    refine s_ifF (et_kind (ev_var rfl) hq (by decide +kernel)) fun H0 e0 => ?_
    have h := h.mono e0
    have hq := e0 _ _ hq
    refine s_ifF (et_kind (ev_var rfl) hq (by decide +kernel)) fun H00 e00 => ?_
    have h := h.mono e00
    have hq := e00 _ _ hq
    refine s_ifT (et_kind (ev_var rfl) hq (by decide +kernel)) fun H1 e1 => ?_
    have h1 := h.mono e1
    have hq1 := e1 _ _ hq
    exact u_ret (u_methA (ev_var rfl) h1.p (by kernel_rfl) (ea_cons (ev_tix (i := 1) (ev_var rfl) hq1 rfl) ea_nil) fun H2 e2 => ⟨A, s, Z, a, rfl, h1.mono e2, ⟨g, can⟩, fun H3 h3 k3 => k H3 h3 ((Kp.ex (e0.trans (e00.trans (e1.trans e2)))).trans k3)⟩)
  | back a b =>
    refine s_ifF (et_kind (ev_var rfl) hq (by decide +kernel)) fun H0 e0 => ?_
    have h := h.mono e0
    have hq := e0 _ _ hq
    refine s_ifF (et_kind (ev_var rfl) hq (by decide +kernel)) fun H00 e00 => ?_
    have h := h.mono e00
    have hq := e00 _ _ hq
    refine s_ifF (et_kind (ev_var rfl) hq (by decide +kernel)) fun H01 e01 => ?_
    have h := h.mono e01
    have hq := e01 _ _ hq
    refine s_ifT (et_kind (ev_var rfl) hq (by decide +kernel)) fun H1 e1 => ?_
    have h1 := h.mono e1
    have hq1 := e1 _ _ hq
    exact u_ret (u_methA (ev_var rfl) h1.p (by kernel_rfl) (ea_cons (ev_tix (i := 1) (ev_var rfl) hq1 rfl) (ea_cons (ev_tix (i := 2) (ev_var rfl) hq1 rfl) ea_nil)) fun H2 e2 => ⟨A, s, Z, a, b, rfl, h1.mono e2, ⟨g, can⟩, fun H3 h3 k3 => k H3 h3 ((Kp.ex (e0.trans (e00.trans (e01.trans (e1.trans e2))))).trans k3)⟩)
  | home a =>
    refine s_ifF (et_kind (ev_var rfl) hq (by decide +kernel)) fun H0 e0 => ?_
    have h := h.mono e0
    have hq := e0 _ _ hq
    refine s_ifF (et_kind (ev_var rfl) hq (by decide +kernel)) fun H00 e00 => ?_
    have h := h.mono e00
    have hq := e00 _ _ hq
    refine s_ifF (et_kind (ev_var rfl) hq (by decide +kernel)) fun H01 e01 => ?_
    have h := h.mono e01
    have hq := e01 _ _ hq
    refine s_ifF (et_kind (ev_var rfl) hq (by decide +kernel)) fun H02 e02 => ?_
    have h := h.mono e02
    have hq := e02 _ _ hq
    refine s_ifT (et_kind (ev_var rfl) hq (by decide +kernel)) fun H1 e1 => ?_
    have h1 := h.mono e1
    have hq1 := e1 _ _ hq
    exact u_ret (u_methA (ev_var rfl) h1.p (by kernel_rfl) (ea_cons (ev_tix (i := 1) (ev_var rfl) hq1 rfl) ea_nil) fun H2 e2 => ⟨A, s, Z, a, rfl, h1.mono e2, ⟨g, can⟩, fun H3 h3 k3 => k H3 h3 ((Kp.ex (e0.trans (e00.trans (e01.trans (e02.trans (e1.trans e2)))))).trans k3)⟩)
  | pass =>
    refine s_ifF (et_kind (ev_var rfl) hq (by decide +kernel)) fun H0 e0 => ?_
    have h := h.mono e0
    have hq := e0 _ _ hq
    refine s_ifF (et_kind (ev_var rfl) hq (by decide +kernel)) fun H00 e00 => ?_
    have h := h.mono e00
    have hq := e00 _ _ hq
    refine s_ifF (et_kind (ev_var rfl) hq (by decide +kernel)) fun H01 e01 => ?_
    have h := h.mono e01
    have hq := e01 _ _ hq
    refine s_ifF (et_kind (ev_var rfl) hq (by decide +kernel)) fun H02 e02 => ?_
    have h := h.mono e02
    have hq := e02 _ _ hq
    refine s_ifF (et_kind (ev_var rfl) hq (by decide +kernel)) fun H03 e03 => ?_
    have h := h.mono e03
    exact u_ret (u_methA (ev_var rfl) h.p (by kernel_rfl) ea_nil fun H2 e2 => ⟨A, s, Z, rfl, h.mono e2, ⟨g, can⟩, fun H3 h3 k3 => k H3 h3 ((Kp.ex (e0.trans (e00.trans (e01.trans (e02.trans (e03.trans e2)))))).trans k3)⟩)
end
end QH

/-! The law's own loop. -/
namespace QH
open PySem PySem.Spec PyProof.Rows L2 Evl
section
variable {K : PySem.W.Frag} {Z : Addr → Prop} {σ : L2.St} {H H' : Hp} {ta tb tc te tv : TE} {t u : TT} {x y z v : V} {a C dx p c : Addr} {A : Ad} {s : S} {D : Ends} {j : Nat} {w : Wt} {P : V → Hp → Prop}
/-- a check of a hall that comes out true -/
def spChk (K : PySem.W.Frag) (pre : S → Prop) : Sp := fun vs H Q _ => ∃ (A : Ad) (s : S) (Z : Addr → Prop), vs = [.ref A.p, .int s.n] ∧ HallAt K Z H A s ∧ pre s ∧ ∀ H', Ex H H' → Q (.bl true) H'
theorem evr_hallZ {n : Nat} {Zc : Addr → Prop} (hv : Ev ta σ H (.int n)) (n0 : 0 < n) (hn : n ≤ 6) (hZ : ∀ a, H a = none → Zc a) : EvR (tMake (He.ga K "Hall") (sp_Hall_init K) [] E0 (tCons ta tNil)) σ H (fun v H2 => ∃ A : Ad, v = .ref A.p ∧ HallAt K (fun a => A.R a = 0 ∧ Zc a) H2 A (S.init n) ∧ ∀ a, A.R a ≠ 0 → H a = none) :=
  evr_make (ea_cons hv ea_nil) fun H1 e x dx hx hdx ne Q q => ⟨x, dx, n, Zc, rfl, n0, hn, upd_same, fun a ha => hZ a (fresh_back e (none_upd (none_upd ha))), fun H' A eA hA hR k => by
    refine q H' (fun a o h => k a o ?_ (ne_of_none h hx)) ⟨A, by rw [eA], hA, fun a ha => ?_⟩
    · rw [upd_ne (ne_of_none h hx), upd_ne (ne_of_none h hdx)]
      exact h
    · rcases hR a ha with z | z
      · rw [z]
        exact fresh_back e hx
      · exact fresh_back e (none_upd (none_upd z))⟩
theorem evr_hall {n : Nat} (hv : Ev ta σ H (.int n)) (n0 : 0 < n) (hn : n ≤ 6) : EvR (tMake (He.ga K "Hall") (sp_Hall_init K) [] E0 (tCons ta tNil)) σ H (fun v H2 => ∃ A : Ad, v = .ref A.p ∧ HallAt K (fun a => A.R a = 0) H2 A (S.init n) ∧ ∀ a, A.R a ≠ 0 → H a = none) :=
  (evr_hallZ (Zc := fun _ => True) hv n0 hn fun _ _ => trivial).imp fun v H2 e ⟨A, ev, h, k⟩ => ⟨A, ev, h.rez (fun a z => z) (fun a z => (h.zf a z).1) (fun a o _ z => z.1), k⟩
theorem el_slice {q : Addr} {xs : List V} {i j : Int} (h : Ev ta σ H (.ref q)) (hq : SqL K H q xs) (hi : Ev tb σ H (.int i)) (hj : Ev tc σ H (.int j)) : EvL (tSl (rSlL K) ta (tPart tb) (tPart tc)) σ H (cutV xs (some i) (some j)) := fun H1 e Q k =>
  h H1 e _ fun H2 e2 => hi H2 (e.trans e2) _ fun H3 e3 => ⟨i, rfl, hj H3 (e.trans (e2.trans e3)) _ fun H4 e4 => ⟨j, rfl, q, xs, rfl, ex_l (e.trans (e2.trans (e3.trans e4))) hq, fun p hp => k p _ (fresh_back (e2.trans (e3.trans e4)) hp) ((e2.trans (e3.trans e4)).trans (Ex.new hp)) upd_same⟩⟩
def cutI (ns : List Int) (lo hi : Option Int) : List Int := (ns.drop (HT.sIx ns.length 0 lo)).take (HT.sIx ns.length ns.length hi - HT.sIx ns.length 0 lo)
theorem cutV_ints {ns : List Int} {lo hi : Option Int} : cutV (ns.map V.int) lo hi = (cutI ns lo hi).map V.int := by
  unfold cutV cutI
  rw [List.length_map, List.map_take, List.map_drop]
theorem evr_act (h : HallAt K Z H A s) (g : Good s) {c : Int} (h1 : Ev ta σ H (.ref A.p)) (h2 : Ev tb σ H (.int s.n)) (h3 : Ev tc σ H (.int c)) : EvR (tCall (sp_l_act K) [] E0 (tCons ta (tCons tb (tCons tc tNil)))) σ H
    (fun v H2 => match s.pick c with
    | none => v = .non
    | some a => ∃ q, v = .ref q ∧ H2 q = some (.tup (actV a))) :=
  evr_call (ea_cons h1 (ea_cons h2 (ea_cons h3 ea_nil))) fun H1 e Q q E => ⟨A, s, Z, c, rfl, h.mono e, g, fun H' v e' hv => q v H' e' hv⟩
/-- a call whose value is dropped -/
theorem s_callX {sp : Sp} {tg : TA} {vs : List V} (hv : EvA tg σ H vs) (k : ∀ H1, Ex H H1 → sp (vs ++ []) H1 (fun _ H3 => D.nx σ H3) E0) : tDrop (tCall sp [] E0 tg) D σ H := hv H (Ex.refl H) _ fun H1 e1 => k H1 e1
/-- an act is drawn and done, where there is one: then the rest -/
theorem s_actdo (h : HallAt K Z H A s) (g : Good s) {c : Int} {i j : Nat} {rest : TS} (h1 : Ev ta σ H (.ref A.p)) (h2 : Ev tb σ H (.int s.n)) (h3 : Ev tc σ H (.int c))
    (e1 : ∀ v H2, Ev ta (σ.set j (some v)) H2 (.ref A.p)) (ej : ∀ v, (σ.set j (some v))[j]? = some (some v))
    (k : ∀ v H2 s', (s' = s ∨ ∃ a, s.Can a ∧ s' = s.step a) → HallAt K Z H2 A s' → Kp A H H2 → rest D (σ.set j (some v)) H2) :
    tSeq (tAsg (tCall (sp_l_act K) [] E0 (tCons ta (tCons tb (tCons tc tNil)))) (gName j)) (tSeq (tIfS (tB (tNotN (tVar j))) (tDrop (tCall (sp_l_do K) [] E0 (tCons ta (tCons (tVar j) tNil)))) tNext) rest) D σ H := by
  refine s_asgR (evr_act h g h1 h2 h3) fun v H1 x1 hv => ?_
  have hh := h.mono x1
  cases ep : s.pick c with
  | none =>
    rw [ep] at hv
    have hv : v = .non := hv
    subst hv
    refine s_if1 (et_B (ev_notN (ev_var (ej _)))) (fun b => by cases b) (fun b H2 x2 => ?_)
    exact k _ H2 s (Or.inl rfl) (hh.mono x2) (Kp.ex (x1.trans x2))
  | some a =>
    rw [ep] at hv
    obtain ⟨q, rfl, hq⟩ := hv
    refine s_if1 (et_B (ev_notN (ev_var (ej _)))) (fun b H2 x2 => ?_) (fun b => by cases b)
    refine s_callX (ea_cons (e1 _ H2) (ea_cons (ev_var (ej _)) ea_nil)) fun H3 x3 => ?_
    exact ⟨A, s, Z, q, a, rfl, hh.mono (x2.trans x3), g, can_pick ep, (x2.trans x3) _ _ hq, fun H4 h4 k4 => k _ H4 _ (Or.inr ⟨a, can_pick ep, rfl⟩) h4 ((Kp.ex (x1.trans (x2.trans x3))).trans k4)⟩
theorem ev_many {a : Addr} {ns : List Int} (h : Ev ta σ H (.ref a)) (hS : SqL K H a (ns.map V.int)) : Ev (tCall (sp_l_many K) [] E0 (tCons ta tNil)) σ H (.int (many ns)) := ev_call (vs := [.ref a]) (ea_cons h ea_nil) (spv_many hS)
theorem many_nat (ns : List Int) : many ns = ((many ns).toNat : Nat) := by have := many_bounds ns; omega
theorem ev_chk {pre : S → Prop} (h : HallAt K Z H A s) (hp : pre s) (h1 : Ev ta σ H (.ref A.p)) (h2 : Ev tb σ H (.int s.n)) : Ev (tCall (spChk K pre) [] E0 (tCons ta (tCons tb tNil))) σ H (.bl true) :=
  ev_call (vs := [.ref A.p, .int s.n]) (ea_cons h1 (ea_cons h2 ea_nil)) fun H1 e Q q E => ⟨A, s, Z, rfl, h.mono e, hp, fun H' e' => q H' e'⟩
theorem cutI_len {ns : List Int} : (cutI ns (some 1) (some 61)).length ≤ 60 := by
  unfold cutI
  rw [List.length_take]
  have h1 : HT.sIx ns.length ns.length (some 61) - HT.sIx ns.length 0 (some 1) ≤ 60 := by
    have e1 : HT.sIx ns.length ns.length (some 61) = min 61 ns.length := HT.sIx_nat _ _ 61
    have e2 : HT.sIx ns.length 0 (some 1) = min 1 ns.length := HT.sIx_nat _ _ 1
    omega
  omega
/-- the law's loop over a check -/
theorem law_chk (T : TxtK K) {pre : S → Prop} {Inv : Nat → S → Prop} (h0 : ∀ n, 2 ≤ n → n ≤ 6 → Inv 0 (S.init n)) (hst : ∀ i s a, i < 60 → Inv i s → s.Can a → Inv (i + 1) (s.step a)) (hmo : ∀ i s, Inv i s → Inv (i + 1) s)
    (hg : ∀ i s, i ≤ 60 → Inv i s → Good s) (hp : ∀ i s, i ≤ 60 → Inv i s → pre s) : ∀ vs H Q E, sp_law K vs H Q E →
    (tSeq (tAsg (tCall (sp_l_many K) [] E0 (tCons (tVar 0) tNil)) (gName 1)) (tSeq (tAsg (tMake (He.ga K "Hall") (sp_Hall_init K) [] E0 (tCons (tVar 1) tNil)) (gName 2)) (tSeq (tFor (iList K (tSl (rSlL K) (tVar 0) (tPart (tC (.int 1))) (tPart (tC (.int 61))))) (gName 3) (tSeq (tAsg (tCall (sp_l_act K) [] E0 (tCons (tVar 2) (tCons (tVar 1) (tCons (tVar 3) tNil)))) (gName 4)) (tSeq (tIfS (tB (tNotN (tVar 4))) (tDrop (tCall (sp_l_do K) [] E0 (tCons (tVar 2) (tCons (tVar 4) tNil)))) tNext) (tIfS (tNot (tB (tCall (spChk K pre) [] E0 (tCons (tVar 2) (tCons (tVar 1) tNil))))) (tRet (tC (.bl false))) tNext)))) (tRet (tC (.bl true))))))
      { nx := fun _ H' => Q .non H', rt := Q } (start ["_law_script", "_law_many_here", "_law_hall", "_law_cell_here", "_law_act_here"] vs) H := by
  rintro vs H Q E ⟨a, ns, rfl, hS, hlen, k⟩
  show (tSeq _ _) _ [some (.ref a), none, none, none, none] H
  obtain ⟨m2, m6⟩ := many_bounds ns
  have en := many_nat ns
  generalize hn : (many ns).toNat = n at en
  refine s_asg (ev_is (ev_many (ev_var rfl) hS) (congrArg V.int en)) fun H1 e1 => ?_
  refine s_asgR (evr_hall (n := n) (ev_var rfl) (by omega) (by omega)) ?_
  rintro _ H2 e2 ⟨A, rfl, hA, hR⟩
  have hsl : EvL (tSl (rSlL K) (tVar 0) (tPart (tC (.int 1))) (tPart (tC (.int 61)))) [some (.ref a), some (.int n), some (.ref A.p), none, none] H2 ((cutI ns (some 1) (some 61)).map V.int) := by
    rw [← cutV_ints]
    exact el_slice (ev_var rfl) (ex_l (e1.trans e2) hS) ev_c ev_c
  refine s_forNL (xs := (cutI ns (some 1) (some 61)).map V.int) hsl
    (fun q i σ' H' => ∃ s v3 v4, σ' = [some (.ref a), some (.int n), some (.ref A.p), v3, v4] ∧ HallAt K (fun a => A.R a = 0) H' A s ∧ s.n = n ∧ Inv i s ∧ H' q = some (.lst ((cutI ns (some 1) (some 61)).map V.int)) ∧ A.R q = 0) ?_ ?_ ?_ ?_
  · intro q H3 nq e3 hq
    exact ⟨S.init n, none, none, rfl, hA.mono e3, rfl, h0 n (by omega) (by omega), hq, hA.zf q nq⟩
  · rintro q i σ' H' _ ⟨s, v3, v4, _, _, _, _, hq, _⟩
    exact sq_of hq
  · rintro q i x σ' H' hx ⟨s, v3, v4, rfl, hA', rfl, inv, hq, rq⟩
    have hi : i < 60 := by
      have := (List.getElem?_eq_some_iff.mp hx).1
      rw [List.length_map] at this
      have := cutI_len (ns := ns)
      omega
    obtain ⟨c, hc, rfl⟩ : ∃ c, (cutI ns (some 1) (some 61))[i]? = some c ∧ x = V.int c := by
      rw [List.getElem?_map] at hx
      cases e : (cutI ns (some 1) (some 61))[i]? with
      | none =>
        rw [e] at hx
        cases hx
      | some c =>
        rw [e] at hx
        exact ⟨c, rfl, (Option.some.inj hx).symm⟩
    show (tSeq _ _) _ [some (.ref a), some (.int s.n), some (.ref A.p), some (.int c), v4] H'
    refine s_actdo (i := 0) hA' (hg i s (by omega) inv) (ev_var rfl) (ev_var rfl) (ev_var rfl) (fun _ _ => ev_var rfl) (fun _ => rfl) fun v H3 s' hs' h3 k3 => ?_
    have inv' : Inv (i + 1) s' := by
      rcases hs' with rfl | ⟨a, ca, rfl⟩
      · exact hmo i _ inv
      · exact hst i s a hi inv ca
    have n' : s'.n = s.n := by
      rcases hs' with rfl | ⟨a, ca, rfl⟩
      · rfl
      · exact step_n
    refine s_if (et_not (et_B (ev_chk h3 (hp (i + 1) s' (by omega) inv') (ev_var rfl) (ev_is (ev_var rfl) (by rw [n']))))) (fun b => by cases b) (fun b H4 e4 => ?_)
    exact ⟨s', _, _, rfl, h3.mono e4, n', inv', e4 _ _ (k3 _ _ hq rq), rq⟩
  · rintro q σ' H' ⟨s, v3, v4, rfl, hA', rfl, inv, hq, rq⟩
    exact k H'
end
end QH

/-! list.count over flat items. -/
namespace QH
open PySem PySem.Spec PyProof.Rows L2
open PySem.SeqAt
section
variable {X : Cx}
def rCount (K : PySem.W.Frag) : V → List V → Hp → VK → Prop := fun x xs H Q => ∃ (a : Addr) (ys : List V) (y : V), x = V.ref a ∧ xs = [y] ∧ SqL K H a ys ∧ flatV y = true ∧ ys.all flatV = true ∧ Q (.int (ys.countP (fun z => eqV z y) : Nat)) H
theorem countP_eqU {y : V} : ∀ {ys : List V} {us : List Value}, Vals ys us → ys.all flatV = true → us.countP (eqU y) = ys.countP fun z => eqV z y
  | _, _, .nil, _ => rfl
  | _, _, .cons r rs, f => by
    rw [List.all_cons, Bool.and_eq_true] at f
    rw [List.countP_cons, List.countP_cons, countP_eqU rs f.2, eqU_of r f.1]
theorem mt_countF : MtR X "list.count" (rCount X.K) := by
  intro pins s σ H x xs v us Q I rx rxs h
  obtain ⟨a, ys, y, rfl, rfl, hs, fy, fys, q⟩ := h
  cases rx
  cases rxs with
  | cons ry rt =>
    rename_i uy ut
    cases rt
    obtain ⟨its, rv, ⟨⟨cls, dd, data, sl⟩, n, ho, hc, hdn, hd⟩, hlen⟩ := I.list hs
    simp only at hc hd
    subst hc hd
    refine call_meets PySem.F.slot_list_count ⟨_, ho, rfl⟩ PySem.F.entry_list_count (PySem.F.args_list_count_2 _ _)
      (SeqAt.list_countAt a its.toArray n dd sl uy (eqU y)) ⟨ho, fun u' hu' => mem_eqAt ry fy rv fys u' (by simpa using hu'), ?_⟩
    have e : its.toArray.toList.countP (eqU y) = ys.countP fun z => eqV z y := countP_eqU rv fys
    refine ⟨.int _, H, I.tok _, ⟨s.toks, ?_⟩, q⟩
    show Value.int _ s.toks = Value.int _ s.toks
    rw [e]
end
end QH

/-! d.values() of a locked dict with tuple keys. -/
namespace QH
open PySem PySem.Spec PyProof.Rows L2
section
variable {X : Cx} {pins : List (Addr × Obj)} {σ : L2.St} {H : Hp} {s : Shared} {d : Addr} {o : Obj}
theorem frzTv {kvs : List (List L2.Key × V)} (I : Inv X pins σ H s) (h : H d = some (.frz o (.dT kvs))) :
    (d == sysModules) = false ∧ s.heap.get? d = some o ∧ o.ExactDict ∧ ∃ (es : Array DictEntry) (ep : Nat), o.data = .dict es ep ∧ es.size = kvs.length ∧
      ∀ (i : Nat) (k : List L2.Key) (v : V), kvs[i]? = some (k, v) → ∃ en : DictEntry, es[i]? = some en ∧ RelV v en.val := by
  obtain ⟨hd, z, hs, xs, pr, o', es, ep, ho, hx, hdt, he, _⟩ := I.hok d _ h
  rw [hd] at ho
  cases ho
  refine ⟨hs, hd, hx, es, ep, hdt, ?_, fun i k v e => ?_⟩
  · have l1 : es.size = xs.length := size_of_entries he
    have l2 : kvs.length = xs.length := Paired.length pr
    omega
  · obtain ⟨b, hb, e1, e2, e3⟩ := paired_get pr e
    have q := entry_at he i
    rw [hb] at q
    exact ⟨_, q, e3⟩
def Itvt (d : Addr) (o : Obj) (kvs : List (List L2.Key × V)) : It :=
  ⟨fun i H => H d = some (.frz o (.dT kvs)) ∧ i < kvs.length, fun i H x H' => H' = H ∧ ∃ k, kvs[i]? = some (k, x), fun i H => H d = some (.frz o (.dT kvs)) ∧ kvs.length ≤ i⟩
end
section
variable {P : Program} {w : World} {K : PySem.W.Frag} {tg : Expr} {d : Addr} {o : Obj} {es : Array DictEntry} {ep : Nat}
theorem turn_valsT {kvs : List (List L2.Key × V)} (it : Addr) (hod : o.data = .dict es ep) : Turn P w K tg (Itvt d o kvs) [it] it (fun i h => h.IsValIter it d i kvs.length ep) where
  mem := by simp
  obj := fun i h st b hb => by
    have e : b = it := by simpa using hb
    subst e
    obtain ⟨oi, e, c, dd⟩ := st
    exact ⟨oi, e, fun v z => by rw [dd] at z; cases z⟩
  keep := fun i h h' st k => st.at fun oi e => k it (by simp) oi e
  item := by
    intro X hP hw hK hc i pins s σ H E I hf st hg
    subst hP hw hK
    obtain ⟨hd, hi⟩ := hg
    obtain ⟨f0, f1, f2, f3, f4, f5⟩ := hf it (by simp)
    obtain ⟨hs, hgd, hx, es', ep', hdt, hsz, ent⟩ := frzTv I hd
    obtain ⟨rfl, rfl⟩ := dict_ep hod hdt
    obtain ⟨⟨k, v⟩, hkv⟩ : ∃ p, kvs[i]? = some p := ⟨kvs[i], List.getElem?_eq_getElem hi⟩
    obtain ⟨en, hen, ru⟩ := ent i k v hkv
    rw [← hsz] at st
    obtain ⟨hlt, hge⟩ := Array.getElem?_eq_some_iff.mp hen
    refine wpAny_pyNext_values_item_raw st ⟨_, hgd, hx, hdt⟩ hlt fun h' st' sb => ?_
    have I1 : Inv X pins σ H { s with heap := h' } := I.turned (t' := s.toks) (fun b ob hb e => (sb.2 b hb).trans e) f0 f1 f3 f4 f5
    obtain ⟨oi, e, c, dd⟩ := id st'
    refine ⟨_, rfl, go_of (s := { s with heap := h' }) e c dd (by decide) ⟨v, H, I1, by rw [hge]; exact ru, ⟨rfl, k, hkv⟩, ?_, fun b hb => (hf b hb).1⟩⟩
    show h'.IsValIter it d (i + 1) kvs.length _
    rw [← hsz]
    exact st'
  done := by
    intro X hP hw hK hc i pins s σ H E I hf st hg
    subst hP hw hK
    obtain ⟨hd, hi⟩ := hg
    obtain ⟨f0, f1, f2, f3, f4, f5⟩ := hf it (by simp)
    obtain ⟨hs, hgd, hx, es', ep', hdt, hsz, ent⟩ := frzTv I hd
    obtain ⟨rfl, rfl⟩ := dict_ep hod hdt
    rw [← hsz] at st
    exact wpAny_pyNext_values_end_raw (I.ok.hd hc) st ⟨_, hgd, hx, hdt⟩ (by omega) fun h' eb => ⟨rfl, I.turned (t' := s.toks) (fun b ob hb e => eb b ob hb e) f0 f1 f3 f4 f5⟩
  self := fun A i s Q E st h => wpAny_pyIter_valiter st h
end
def iValsT (td : TE) : TI := fun σ H R => td σ H fun x H1 => ∃ d o kvs, x = .ref d ∧ H1 d = some (.frz o (.dT kvs)) ∧ R (Itvt d o kvs) H1
section
variable {X : Cx} {tg e : Expr} {td : TE} {apos cpos : Pos}
theorem pi_valuesT (he : PE X e td) (hbase : attributeBase e "values" X.env (eval e X.env) = eval e X.env := by rfl) (hline : (apos.endLine == cpos.line) = true := by rfl) : PI X tg (.Call (.Attribute e "values" apos) [] [] cpos) (iValsT td) := by
  refine ⟨fun pins s σ H R I h => ?_⟩
  refine wpAny_Call_method (T := "dict") (id := "dict.values") hbase rfl hline F.plainAttrs_dict F.slot_dict_values F.type_dict_values (thn (he.run pins s σ H _ I h) fun u s1 ⟨x, H1, I1, rx, d, o, kvs, ex, hd, q⟩ => ?_)
  subst ex
  obtain rfl : u = Value.ref d := rx
  obtain ⟨hs, hgd, hx, es, ep, hdt, hsz, ent⟩ := frzTv I1 hd
  have hm : s1.heap.DictRaw d es ep := ⟨_, hgd, hx, hdt⟩
  refine ⟨hm.typeIs, (fun b hb => (by cases hb; exact ⟨_, hgd, hx.2.1⟩)), ?_⟩
  have I2 : Inv X pins σ H1 { s1 with heap := s1.heap.push { cls := .type "dict_values", data := .fields #[.ref d] } } := I1.kept (t' := s1.toks) fun b ob q => Heap.get?_push_of_some _ q
  have fin : wpAny (model X.prog X.w) X.A (pyIter (.ref s1.heap.objs.size)) (PIE X pins σ tg R) X.xe { s1 with heap := s1.heap.push { cls := .type "dict_values", data := .fields #[.ref d] } } := by
    refine wpAny_pyIter_values_raw (d := d) ⟨_, Heap.get?_push_size _ rfl, rfl, rfl⟩ (show Heap.DictRaw _ d es ep from ⟨_, Heap.get?_push_of_some _ hgd, hx, hdt⟩) (pi_one (tk := s1.toks) I2 _ (turn_valsT _ hdt) ⟨_, Heap.get?_push_size _ rfl, rfl, ?_⟩ q)
    rw [hsz] <;> rfl
  show wpAny _ _ (callWith cpos (.builtin "dict.values") [.ref d] [] []) _ X.xe s1
  exact method_meetsIn F.slot_dict_values F.entry_dict_values rfl (PySem.evalArgs_none ⟨rfl, hm.typeIs, F.args_dict_values_1 _, _, meets_dict_values_raw d hs, ⟨⟨es, ep, hm⟩, fin⟩⟩)
end
end QH

/-! The tree's invariant. -/
namespace QH
theorem WI.mono {i : Nat} {s : S} (h : WI i s) : WI (i + 1) s := ⟨⟨fun j hj => ⟨Nat.le_succ_of_le (h.pw.h j hj).1, (h.pw.h j hj).2⟩, fun j k hj hk w hw => ⟨Nat.le_succ_of_le (h.pw.r j k hj hk w hw).1, (h.pw.r j k hj hk w hw).2⟩, fun j hj w hw => ⟨Nat.le_succ_of_le (h.pw.w j hj w hw).1, (h.pw.w j hj w hw).2⟩⟩, h.tot, h.hp, h.rp, h.wp⟩
/-- what a hand has open towards another -/
def S.term (s : S) (h o : Nat) : Int := ((s.rows h o).length : Int) + s.slips h o + (if s.over o = some h then 1 else 0)
structure TIx (x : Nat) (s : S) : Prop where
  o0 : s.over 0 = none
  due : ∀ h, h < s.n → s.due h = sumZ s.n (s.term h)
  sl : ∀ i j, 0 ≤ s.slips i j
  sd : ∀ i, s.slips i i = 0
  out : ∀ h, h < s.n → h ≠ 0 → s.over h = none → s.busy h = false ∧ s.due h = 0
  rk : ∃ r : Nat → Nat, ∀ h p, h < s.n → s.over h = some p → p < s.n ∧ (p = 0 ∨ (s.over p).isSome = true) ∧ r p < r h
  st : ∀ h, h < s.n → h ≠ x → (s.over h).isSome = true → s.busy h = false → s.due h ≠ 0
structure TI (s : S) : Prop extends TIx 0 s
def S.tview (s : S) : Nat × (Nat → Bool) × (Nat → Nat → List Wt) × (Nat → Int) × (Nat → Option Nat) × (Nat → Nat → Int) := (s.n, s.busy, s.rows, s.due, s.over, s.slips)
theorem TIx.of {x : Nat} {s s' : S} (h : TIx x s) (e : s'.tview = s.tview) : TIx x s' := by
  obtain ⟨n, busy, rows, due, over, slips, held, hw, cnt, blk, place, sum, tb, begun, found⟩ := s
  obtain ⟨n', busy', rows', due', over', slips', held', hw', cnt', blk', place', sum', tb', begun', found'⟩ := s'
  simp only [S.tview, Prod.mk.injEq] at e
  obtain ⟨rfl, rfl, rfl, rfl, rfl, rfl⟩ := e
  exact ⟨h.o0, h.due, h.sl, h.sd, h.out, h.rk, h.st⟩
theorem TI.of {s s' : S} (h : TI s) (e : s'.tview = s.tview) : TI s' := ⟨h.toTIx.of e⟩
theorem TIx.tn {x : Nat} {s : S} (h : TIx x s) (i j : Nat) : 0 ≤ s.term i j := by
  have := h.sl i j
  unfold S.term
  split <;> omega
theorem TIx.due0 {x : Nat} {s : S} (h : TIx x s) {i : Nat} (hi : i < s.n) : 0 ≤ s.due i := by
  rw [h.due i hi]
  exact sumZ_nonneg fun j _ => h.tn i j
theorem TIx.term_le {x : Nat} {s : S} (h : TIx x s) {i j : Nat} (hi : i < s.n) (hj : j < s.n) : s.term i j ≤ s.due i := by
  rw [h.due i hi]
  exact sumZ_ge (fun k _ => h.tn i k) hj
theorem TIx.inn {x : Nat} {s : S} (h : TIx x s) {i : Nat} (hi : i < s.n) (hd : 0 < s.due i ∨ s.busy i = true) : i = 0 ∨ (s.over i).isSome = true := by
  by_cases e : i = 0
  · exact Or.inl e
  · refine Or.inr ?_
    cases o : s.over i with
    | some p => rfl
    | none =>
      have := h.out i hi e o
      rcases hd with hd | hd
      · omega
      · rw [this.1] at hd
        cases hd
theorem TIx.row_in {x : Nat} {s : S} (h : TIx x s) {a b : Nat} (ha : a < s.n) (hb : b < s.n) (hr : s.rows a b ≠ []) : 0 < s.due a := by
  have h1 := h.term_le ha hb
  have h2 := h.sl a b
  have h3 : 0 < (s.rows a b).length := List.length_pos_iff.mpr hr
  unfold S.term at h1
  split at h1 <;> omega
theorem TIx.slip_in {x : Nat} {s : S} (h : TIx x s) {a b : Nat} (ha : a < s.n) (hb : b < s.n) (hr : 0 < s.slips a b) : 0 < s.due a := by
  have h1 := h.term_le ha hb
  unfold S.term at h1
  split at h1 <;> omega
theorem TI.init {n : Nat} : TI (S.init n) := by
  refine ⟨⟨rfl, fun h hh => ?_, fun _ _ => Int.le_refl _, fun _ => rfl, fun h hh h0 _ => ⟨?_, rfl⟩, ⟨fun _ => 0, fun h p _ e => ?_⟩, fun h hh hx e _ => ?_⟩⟩
  · refine (sumZ_all0 fun i hi => ?_).symm
    show ((([] : List Wt).length : Nat) : Int) + 0 + (if (none : Option Nat) = some h then 1 else 0) = 0
    simp
  · show decide (h = 0) = false
    simp [h0]
  · cases e
  · cases e
theorem TI.send {s : S} {a b : Nat} (h : TI s) (hc : s.Can (.send a b)) : TI (s.send a b) := by
  obtain ⟨⟨ha, hb, hne⟩, hbusy⟩ := hc
  refine TI.of (s := { s with rows := up2 s.rows a b (s.rows a b ++ [half (s.held a)]), due := up s.due a (s.due a + 1) }) ?_ rfl
  refine ⟨⟨h.o0, fun i hi => ?_, h.sl, h.sd, fun i hi i0 e => ?_, h.rk, fun i hi i0 e be => ?_⟩⟩
  · show up s.due a (s.due a + 1) i = sumZ s.n (S.term _ i)
    by_cases e : i = a
    · subst e
      have : S.term { s with rows := up2 s.rows i b (s.rows i b ++ [half (s.held i)]), due := up s.due i (s.due i + 1) } i = up (s.term i) b (s.term i b + 1) := by
        funext o
        by_cases eo : o = b
        · subst eo
          rw [up_same]
          simp only [S.term, up2_same, List.length_append, List.length_singleton]
          omega
        · rw [up_ne eo]
          simp only [S.term]
          rw [up2_ne (fun z => eo z.2)]
      rw [this, sumZ_up hb, up_same, h.due i hi]
      omega
    · rw [up_ne e, h.due i hi]
      refine sumZ_congr fun o _ => ?_
      simp only [S.term]
      rw [up2_ne (fun z => e z.1)]
  · have := h.out i hi i0 e
    by_cases ea : i = a
    · subst ea
      rw [hbusy] at this
      cases this.1
    · refine ⟨this.1, ?_⟩
      show up s.due a (s.due a + 1) i = 0
      rw [up_ne ea]
      exact this.2
  · show up s.due a (s.due a + 1) i ≠ 0
    by_cases ea : i = a
    · subst ea
      have be : s.busy i = false := be
      rw [hbusy] at be
      cases be
    · rw [up_ne ea]
      exact h.st i hi i0 e be
theorem TI.take {s : S} {a b : Nat} (h : TI s) (hc : s.Can (.take a b)) : TI (s.take a b) := by
  obtain ⟨⟨ha, hb, hne⟩, hr⟩ := hc
  have hda := h.row_in ha hb hr
  have lt : ((s.rows a b).tail.length : Int) + 1 = (s.rows a b).length := by
    cases e : s.rows a b with
    | nil => exact absurd e hr
    | cons x l => simp
  by_cases ei : s.isIn b = true
  · refine TI.of (s := { s with busy := up s.busy b true, rows := up2 s.rows a b (s.rows a b).tail, slips := up2 s.slips a b (s.slips a b + 1) }) ?_ ?_
    · refine ⟨⟨h.o0, fun i hi => ?_, fun i j => ?_, fun i => ?_, fun i hi i0 e => ?_, h.rk, fun i hi i0 e be => ?_⟩⟩
      · show s.due i = _
        rw [h.due i hi]
        refine sumZ_congr fun o _ => ?_
        simp only [S.term]
        by_cases e : i = a ∧ o = b
        · obtain ⟨rfl, rfl⟩ := e
          rw [up2_same, up2_same]
          omega
        · rw [up2_ne e, up2_ne e]
      · show 0 ≤ up2 s.slips a b (s.slips a b + 1) i j
        have := h.sl i j
        by_cases e : i = a ∧ j = b
        · obtain ⟨rfl, rfl⟩ := e
          rw [up2_same]
          omega
        · rw [up2_ne e]
          exact this
      · show up2 s.slips a b (s.slips a b + 1) i i = 0
        rw [up2_ne (fun z => hne (z.1.symm.trans z.2))]
        exact h.sd i
      · have := h.out i hi i0 e
        refine ⟨?_, this.2⟩
        show up s.busy b true i = false
        by_cases eb : i = b
        · subst eb
          unfold S.isIn at ei
          rw [Bool.or_eq_true] at ei
          rcases ei with z | z
          · exact absurd (of_decide_eq_true z) i0
          · have e : s.over i = none := e
            rw [e] at z
            cases z
        · rw [up_ne eb]
          exact this.1
      · have be : up s.busy b true i = false := be
        by_cases eb : i = b
        · subst eb
          rw [up_same] at be
          cases be
        · rw [up_ne eb] at be
          exact h.st i hi i0 e be
    · show S.tview (S.ringTaken (S.treeTaken _ a b) b) = _
      unfold S.treeTaken
      have : S.isIn ((((s.add b ((s.rows a b).headD (0, 0))).setRow a b (s.rows a b).tail).setBusy b true)) b = true := ei
      rw [if_pos this]
      rfl
  · have hb0 : b ≠ 0 := fun z => ei (by subst z; rfl)
    have ho : s.over b = none := by
      cases o : s.over b with
      | none => rfl
      | some p =>
        refine absurd ?_ ei
        unfold S.isIn
        rw [o]
        simp
    have hdb := h.out b hb hb0 ho
    refine TI.of (s := { s with busy := up s.busy b true, rows := up2 s.rows a b (s.rows a b).tail, over := up s.over b (some a) }) ?_ ?_
    · refine ⟨⟨?_, fun i hi => ?_, h.sl, h.sd, fun i hi i0 e => ?_, ?_, fun i hi i0 e be => ?_⟩⟩
      · show up s.over b (some a) 0 = none
        rw [up_ne (fun z => hb0 z.symm)]
        exact h.o0
      · show s.due i = _
        rw [h.due i hi]
        refine sumZ_congr fun o _ => ?_
        simp only [S.term]
        by_cases eo : o = b
        · subst eo
          simp only [up_same, ho]
          by_cases e : i = a
          · subst e
            rw [up2_same, if_pos rfl, if_neg (by simp)]
            omega
          · rw [up2_ne (fun z => e z.1), if_neg (by simp), if_neg (by simp; exact fun z => e z.symm)]
        · have e2 : ¬ (i = a ∧ o = b) := fun z => eo z.2
          simp only [up_ne eo, up2_ne e2]
      · have e : up s.over b (some a) i = none := e
        have eb : i ≠ b := fun z => by
          subst z
          rw [up_same] at e
          cases e
        rw [up_ne eb] at e
        have := h.out i hi i0 e
        refine ⟨?_, this.2⟩
        show up s.busy b true i = false
        rw [up_ne eb]
        exact this.1
      · obtain ⟨r, hrk⟩ := h.rk
        refine ⟨up r b (r a + 1), fun i p hi e => ?_⟩
        have e : up s.over b (some a) i = some p := e
        show p < s.n ∧ (p = 0 ∨ (up s.over b (some a) p).isSome = true) ∧ _
        by_cases eb : i = b
        · subst eb
          rw [up_same] at e
          cases e
          rw [up_ne hne, up_same, up_ne hne]
          exact ⟨ha, h.inn ha (Or.inl hda), Nat.lt_succ_self _⟩
        · rw [up_ne eb] at e
          obtain ⟨h1, h2, h3⟩ := hrk i p hi e
          have pb : p ≠ b := fun z => by
            subst z
            rcases h2 with h2 | h2
            · exact hb0 h2
            · rw [ho] at h2
              cases h2
          rw [up_ne pb, up_ne pb, up_ne eb]
          exact ⟨h1, h2, h3⟩
      · have be : up s.busy b true i = false := be
        by_cases eb : i = b
        · subst eb
          rw [up_same] at be
          cases be
        · rw [up_ne eb] at be
          have e : (up s.over b (some a) i).isSome = true := e
          rw [up_ne eb] at e
          exact h.st i hi i0 e be
    · show S.tview (S.ringTaken (S.treeTaken _ a b) b) = _
      unfold S.treeTaken
      have : ¬ S.isIn ((((s.add b ((s.rows a b).headD (0, 0))).setRow a b (s.rows a b).tail).setBusy b true)) b = true := ei
      rw [if_neg this]
      rfl
theorem TIx.no_child {x : Nat} {s : S} (h : TIx x s) {a : Nat} (ha : a < s.n) (hd : s.due a = 0) {c : Nat} (hc : c < s.n) : s.over c ≠ some a := fun e => by
  have h1 := h.term_le ha hc
  have h2 := h.sl a c
  unfold S.term at h1
  rw [if_pos e] at h1
  omega
theorem TIx.settle {s : S} {a : Nat} (h : TIx a s) (ha : a < s.n) (w : Bool) (hw : s.busy a = w) : TI (s.settle a w) := by
  unfold S.settle
  split
  · rename_i hl
    unfold S.leaves at hl
    simp only [Bool.and_eq_true, decide_eq_true_eq, Bool.not_eq_true'] at hl
    obtain ⟨h0, ho, hw0, hd⟩ := hl
    obtain ⟨p, hp⟩ := Option.isSome_iff_exists.mp ho
    rw [hp]
    obtain ⟨r, hrk⟩ := h.rk
    obtain ⟨p1, p2, p3⟩ := hrk a p ha hp
    have pa : p ≠ a := fun z => by
      subst z
      omega
    refine ⟨⟨?_, fun i hi => ?_, fun i j => ?_, fun i => ?_, fun i hi i0 e => ?_, ⟨r, fun i q hi e => ?_⟩, fun i hi i0 e be => ?_⟩⟩
    · show up s.over a none 0 = none
      rw [up_ne (by omega)]
      exact h.o0
    · show s.due i = _
      rw [h.due i hi]
      refine sumZ_congr fun o _ => ?_
      simp only [S.term, Option.getD_some]
      by_cases eo : o = a
      · subst eo
        simp only [up_same, hp]
        by_cases e : i = p
        · subst e
          rw [up2_same, if_pos rfl, if_neg (by simp)]
          omega
        · rw [up2_ne (fun z => e z.1), if_neg (fun z => e (Option.some.inj z).symm), if_neg (by simp)]
      · have e2 : ¬ (i = p ∧ o = a) := fun z => eo z.2
        simp only [up_ne eo, up2_ne e2]
    · show 0 ≤ up2 s.slips p a (s.slips p a + 1) i j
      have := h.sl i j
      by_cases e : i = p ∧ j = a
      · obtain ⟨rfl, rfl⟩ := e
        rw [up2_same]
        omega
      · rw [up2_ne e]
        exact this
    · show up2 s.slips p a (s.slips p a + 1) i i = 0
      rw [up2_ne (fun z => pa (z.1.symm.trans z.2))]
      exact h.sd i
    · have e : up s.over a none i = none := e
      by_cases ea : i = a
      · subst ea
        exact ⟨hw.trans hw0, hd⟩
      · rw [up_ne ea] at e
        exact h.out i hi i0 e
    · have e : up s.over a none i = some q := e
      by_cases ea : i = a
      · subst ea
        rw [up_same] at e
        cases e
      · rw [up_ne ea] at e
        obtain ⟨q1, q2, q3⟩ := hrk i q hi e
        have qa : q ≠ a := fun z => h.no_child ha hd hi (z ▸ e)
        refine ⟨q1, ?_, q3⟩
        show q = 0 ∨ (up s.over a none q).isSome = true
        rw [up_ne qa]
        exact q2
    · have e : (up s.over a none i).isSome = true := e
      by_cases ea : i = a
      · subst ea
        rw [up_same] at e
        cases e
      · rw [up_ne ea] at e
        exact h.st i hi ea e be
  · rename_i hl
    refine ⟨⟨h.o0, h.due, h.sl, h.sd, h.out, h.rk, fun i hi i0 e be => ?_⟩⟩
    by_cases ea : i = a
    · subst ea
      intro hd
      refine hl ?_
      unfold S.leaves
      rw [e, ← hw, be, hd]
      simp
      omega
    · exact h.st i hi ea e be
theorem TI.rest {s : S} {a : Nat} (h : TI s) (hc : s.Can (.rest a)) : TI (s.rest a) := by
  obtain ⟨ha, hb⟩ := hc
  refine TIx.settle (TIx.of (s := { s with busy := up s.busy a false }) ?_ ?_) ?_ false ?_
  · refine ⟨h.o0, h.due, h.sl, h.sd, fun i hi i0 e => ?_, h.rk, fun i hi ia e be => ?_⟩
    · have := h.out i hi i0 e
      refine ⟨?_, this.2⟩
      show up s.busy a false i = false
      by_cases ea : i = a
      · subst ea
        exact up_same
      · rw [up_ne ea]
        exact this.1
    · have be : up s.busy a false i = false := be
      rw [up_ne ia] at be
      have i0 : i ≠ 0 := fun z => by
        subst z
        have e : (s.over 0).isSome = true := e
        rw [h.o0] at e
        cases e
      exact h.st i hi i0 e be
  · unfold S.wRested
    split <;> rfl
  · show a < S.n (S.wRested _ a)
    unfold S.wRested
    split <;> exact ha
  · show S.busy (S.wRested (s.setBusy a false) a) a = false
    unfold S.wRested
    split <;> exact up_same
theorem TI.back {s : S} {a b : Nat} (h : TI s) (hc : s.Can (.back a b)) : TI (s.back a b) := by
  obtain ⟨⟨ha, hb, hne⟩, hs⟩ := hc
  have hd := h.slip_in ha hb hs
  refine TIx.settle (s := s.cameBack a b) ?_ ha (s.busy a) rfl
  refine ⟨h.o0, fun i hi => ?_, fun i j => ?_, fun i => ?_, fun i hi i0 e => ?_, h.rk, fun i hi ia e be => ?_⟩
  · show up s.due a (s.due a - 1) i = sumZ s.n (S.term (s.cameBack a b) i)
    by_cases e : i = a
    · subst e
      rw [up_same, h.due i hi]
      have : S.term (s.cameBack i b) i = up (s.term i) b (s.term i b - 1) := by
        funext o
        by_cases eo : o = b
        · subst eo
          rw [up_same]
          show (((s.rows i o).length : Int) + up2 s.slips i o (s.slips i o - 1) i o + (if s.over o = some i then 1 else 0)) = ((s.rows i o).length : Int) + s.slips i o + (if s.over o = some i then 1 else 0) - 1
          rw [up2_same]
          omega
        · rw [up_ne eo]
          show (((s.rows i o).length : Int) + up2 s.slips i b (s.slips i b - 1) i o + (if s.over o = some i then 1 else 0)) = ((s.rows i o).length : Int) + s.slips i o + (if s.over o = some i then 1 else 0)
          rw [up2_ne (fun z => eo z.2)]
      rw [this, sumZ_up hb]
      omega
    · rw [up_ne e, h.due i hi]
      refine sumZ_congr fun o _ => ?_
      show ((s.rows i o).length : Int) + s.slips i o + (if s.over o = some i then 1 else 0) = (((s.rows i o).length : Int) + up2 s.slips a b (s.slips a b - 1) i o + (if s.over o = some i then 1 else 0))
      rw [up2_ne (fun z => e z.1)]
  · show 0 ≤ up2 s.slips a b (s.slips a b - 1) i j
    have := h.sl i j
    by_cases e : i = a ∧ j = b
    · obtain ⟨rfl, rfl⟩ := e
      rw [up2_same]
      omega
    · rw [up2_ne e]
      exact this
  · show up2 s.slips a b (s.slips a b - 1) i i = 0
    rw [up2_ne (fun z => hne (z.1.symm.trans z.2))]
    exact h.sd i
  · have := h.out i hi i0 e
    by_cases ea : i = a
    · subst ea
      omega
    · refine ⟨this.1, ?_⟩
      show up s.due a (s.due a - 1) i = 0
      rw [up_ne ea]
      exact this.2
  · show up s.due a (s.due a - 1) i ≠ 0
    rw [up_ne ia]
    have i0 : i ≠ 0 := fun z => by
      subst z
      have e : (s.over 0).isSome = true := e
      rw [h.o0] at e
      cases e
    exact h.st i hi i0 e be
theorem TI.step {s : S} {a : Act} (h : TI s) (hc : s.Can a) : TI (s.step a) := by
  cases a with
  | send a b => exact h.send hc
  | take a b => exact h.take hc
  | rest a => exact h.rest hc
  | back a b => exact h.back hc
  | home a => exact h.of rfl
  | pass =>
    refine h.of ?_
    show S.tview s.passed = _
    unfold S.passed
    split <;> rfl
/-! ### up the tree -/
def S.up1 (s : S) (h : Nat) : Nat := (s.over h).getD h
def S.ups (s : S) : Nat → Nat → Nat
  | 0, h => h
  | k + 1, h => s.up1 (s.ups k h)
/-- as long as the root isn't met, the hands on the way are unlike -/
theorem TIx.chain {x : Nat} {s : S} (h : TIx x s) {a : Nat} (ha : a < s.n) (hin : a = 0 ∨ (s.over a).isSome = true) {r : Nat → Nat} (hr : ∀ h p, h < s.n → s.over h = some p → p < s.n ∧ (p = 0 ∨ (s.over p).isSome = true) ∧ r p < r h) :
    ∀ k, (s.ups k a < s.n ∧ (s.ups k a = 0 ∨ (s.over (s.ups k a)).isSome = true)) ∧ (s.ups k a ≠ 0 → ∃ l : List Nat, l.Nodup ∧ l.length = k + 1 ∧ ∀ y ∈ l, y < s.n ∧ r (s.ups k a) ≤ r y) := by
  intro k
  induction k with
  | zero => exact ⟨⟨ha, hin⟩, fun _ => ⟨[a], by simp, rfl, fun y hy => by cases List.mem_singleton.mp hy; exact ⟨ha, Nat.le_refl _⟩⟩⟩
  | succ k ih =>
    obtain ⟨⟨i1, i2⟩, i3⟩ := ih
    have eU : s.ups (k + 1) a = (s.over (s.ups k a)).getD (s.ups k a) := rfl
    by_cases e0 : s.ups k a = 0
    · rw [eU, e0, h.o0]
      exact ⟨⟨by rw [← e0]; exact i1, Or.inl rfl⟩, fun z => absurd rfl z⟩
    · obtain ⟨p, hp⟩ := Option.isSome_iff_exists.mp (i2.resolve_left e0)
      rw [eU, hp, Option.getD_some]
      obtain ⟨p1, p2, p3⟩ := hr _ _ i1 hp
      refine ⟨⟨p1, p2⟩, fun _ => ?_⟩
      obtain ⟨l, l1, l2, l3⟩ := i3 e0
      refine ⟨p :: l, List.nodup_cons.mpr ⟨fun hm => ?_, l1⟩, by rw [List.length_cons, l2], fun y hy => ?_⟩
      · have := (l3 p hm).2
        omega
      · rcases List.mem_cons.mp hy with rfl | hy
        · exact ⟨p1, Nat.le_refl _⟩
        · exact ⟨(l3 y hy).1, by have := (l3 y hy).2; omega⟩
theorem TIx.ups0 {x : Nat} {s : S} (h : TIx x s) {a : Nat} (ha : a < s.n) (hin : a = 0 ∨ (s.over a).isSome = true) : s.ups s.n a = 0 := by
  obtain ⟨r, hr⟩ := h.rk
  have c := h.chain ha hin hr s.n
  by_cases e : s.ups s.n a = 0
  · exact e
  · obtain ⟨l, l1, l2, l3⟩ := c.2 e
    have := nodup_below l1 fun y hy => (l3 y hy).1
    omega
theorem TIx.ups_lt {x : Nat} {s : S} (h : TIx x s) {a : Nat} (ha : a < s.n) : ∀ k, s.ups k a < s.n := by
  obtain ⟨r, hr⟩ := h.rk
  intro k
  induction k with
  | zero => exact ha
  | succ k ih =>
    show (s.over (s.ups k a)).getD _ < s.n
    cases e : s.over (s.ups k a) with
    | none => exact ih
    | some p => exact (hr _ _ ih e).1
end QH

/-! The ring's invariant; what each way of telling shows. -/
namespace QH
def S.works (s : S) : Int := sum2 s.n fun i j => ((s.rows i j).length : Int)
def S.low (s : S) : Int := sumZ s.n fun i => if i ≤ s.place then s.cnt i else 0
def S.high (s : S) : Int := sumZ s.n fun i => if s.place < i then s.cnt i else 0
def S.Quiet (s : S) : Prop := (∀ i, i < s.n → s.busy i = false) ∧ ∀ i j, i < s.n → j < s.n → s.rows i j = []
theorem low_high {s : S} : s.low + s.high = sumZ s.n s.cnt := by
  unfold S.low S.high
  rw [← sumZ_add]
  refine sumZ_congr fun i _ => ?_
  by_cases h : i ≤ s.place
  · rw [if_pos h, if_neg (by omega)]
    omega
  · rw [if_neg h, if_pos (by omega)]
    omega
theorem works_nonneg {s : S} : 0 ≤ s.works := sum2_nonneg fun _ _ _ _ => by omega
theorem works_row {s : S} {a b : Nat} (ha : a < s.n) (hb : b < s.n) : ((s.rows a b).length : Int) ≤ s.works := sum2_ge (f := fun i j => ((s.rows i j).length : Int)) (fun _ _ _ _ => by omega) ha hb
theorem works0 {s : S} (h : s.works = 0) : ∀ i j, i < s.n → j < s.n → s.rows i j = [] := fun i j hi hj => by
  have := works_row hi hj
  cases e : s.rows i j with
  | nil => rfl
  | cons x l =>
    rw [e, List.length_cons] at this
    omega
structure R1 (s : S) : Prop where
  nb : ∀ i, s.place < i → i < s.n → s.busy i = false
  sm : s.sum = s.high
def R2' (s : S) : Prop := 0 < s.low + s.sum
def R3 (s : S) : Prop := ∃ i, i ≤ s.place ∧ i < s.n ∧ s.blk i = true
structure RI (s : S) : Prop where
  p0 : sumZ s.n s.cnt = s.works
  ri : s.begun = true → R1 s ∨ R2' s ∨ R3 s ∨ s.tb = true
  fq : s.found = true → s.Quiet
def S.rview (s : S) : Nat × (Nat → Bool) × (Nat → Nat → List Wt) × (Nat → Int) × (Nat → Bool) × Nat × Int × Bool × Bool × Bool := (s.n, s.busy, s.rows, s.cnt, s.blk, s.place, s.sum, s.tb, s.begun, s.found)
theorem RI.of {s s' : S} (h : RI s) (e : s'.rview = s.rview) : RI s' := by
  obtain ⟨n, busy, rows, due, over, slips, held, hw, cnt, blk, place, sum, tb, begun, found⟩ := s
  obtain ⟨n', busy', rows', due', over', slips', held', hw', cnt', blk', place', sum', tb', begun', found'⟩ := s'
  simp only [S.rview, Prod.mk.injEq] at e
  obtain ⟨rfl, rfl, rfl, rfl, rfl, rfl, rfl, rfl, rfl, rfl⟩ := e
  refine ⟨h.p0, fun b => ?_, h.fq⟩
  rcases h.ri b with r | r | r | r
  · exact Or.inl ⟨r.nb, r.sm⟩
  · exact Or.inr (Or.inl r)
  · exact Or.inr (Or.inr (Or.inl r))
  · exact Or.inr (Or.inr (Or.inr r))
theorem RI.init {n : Nat} : RI (S.init n) := by
  refine ⟨?_, (fun b => (by cases b)), (fun b => (by cases b))⟩
  have h1 : sumZ n (fun _ => (0 : Int)) = 0 := sumZ_all0 fun _ _ => rfl
  have h2 : sum2 n (fun _ _ => ((([] : List Wt).length : Nat) : Int)) = 0 := sumZ_all0 fun _ _ => sumZ_all0 fun _ _ => rfl
  exact h1.trans h2.symm
theorem settle_rview {s : S} {a : Nat} {w : Bool} : (s.settle a w).rview = s.rview := by unfold S.settle; split <;> rfl
theorem len_up2 {f : Nat → Nat → List Wt} {a b : Nat} {l : List Wt} : (fun i j => ((up2 f a b l i j).length : Int)) = up2 (fun i j => ((f i j).length : Int)) a b (l.length : Int) := up2_comp (g := fun l : List Wt => (l.length : Int))
theorem RI.send {s : S} {a b : Nat} (h : RI s) (hc : s.Can (.send a b)) : RI (s.send a b) := by
  obtain ⟨⟨ha, hb, hne⟩, hbusy⟩ := hc
  refine RI.of (s := { s with rows := up2 s.rows a b (s.rows a b ++ [half (s.held a)]), cnt := up s.cnt a (s.cnt a + 1) }) ?_ rfl
  refine ⟨?_, fun bg => ?_, fun fd => ?_⟩
  · show sumZ s.n (up s.cnt a (s.cnt a + 1)) = sum2 s.n fun i j => ((up2 s.rows a b (s.rows a b ++ [half (s.held a)]) i j).length : Int)
    rw [sumZ_up ha, len_up2, sum2_up2 ha hb, h.p0, List.length_append, List.length_singleton]
    unfold S.works
    omega
  · rcases h.ri bg with r | r | r | r
    · have hp : ¬ s.place < a := fun z => by
        have := r.nb a z ha
        rw [hbusy] at this
        cases this
      refine Or.inl ⟨r.nb, r.sm.trans ?_⟩
      refine sumZ_congr fun i _ => ?_
      show (if s.place < i then s.cnt i else 0) = if s.place < i then up s.cnt a (s.cnt a + 1) i else 0
      by_cases e : i = a
      · subst e
        rw [if_neg hp, if_neg hp]
      · rw [up_ne e]
    · refine Or.inr (Or.inl ?_)
      show 0 < S.low _ + s.sum
      have r : 0 < s.low + s.sum := r
      have : s.low ≤ S.low { s with rows := up2 s.rows a b (s.rows a b ++ [half (s.held a)]), cnt := up s.cnt a (s.cnt a + 1) } := by
        show s.low ≤ sumZ s.n fun i => if i ≤ s.place then up s.cnt a (s.cnt a + 1) i else 0
        by_cases hp : a ≤ s.place
        · have e : (fun i => if i ≤ s.place then up s.cnt a (s.cnt a + 1) i else 0) = up (fun i => if i ≤ s.place then s.cnt i else 0) a (s.cnt a + 1) := by
            funext i
            by_cases e : i = a
            · subst e
              rw [up_same, up_same, if_pos hp]
            · rw [up_ne e, up_ne e]
          rw [e, sumZ_up ha, if_pos hp]
          unfold S.low
          omega
        · refine Int.le_of_eq (sumZ_congr fun i _ => ?_)
          show (if i ≤ s.place then s.cnt i else 0) = _
          by_cases e : i = a
          · subst e
            rw [if_neg hp, if_neg hp]
          · rw [up_ne e]
      omega
    · exact Or.inr (Or.inr (Or.inl r))
    · exact Or.inr (Or.inr (Or.inr r))
  · have := (h.fq fd).1 a ha
    rw [hbusy] at this
    cases this
theorem RI.take {s : S} {a b : Nat} (h : RI s) (hc : s.Can (.take a b)) : RI (s.take a b) := by
  obtain ⟨⟨ha, hb, hne⟩, hr⟩ := hc
  have lt : ((s.rows a b).tail.length : Int) + 1 = (s.rows a b).length := by
    cases e : s.rows a b with
    | nil => exact absurd e hr
    | cons x l => simp
  refine RI.of (s := { s with busy := up s.busy b true, rows := up2 s.rows a b (s.rows a b).tail, cnt := up s.cnt b (s.cnt b - 1), blk := up s.blk b true }) ?_ ?_
  · refine ⟨?_, fun bg => ?_, fun fd => ?_⟩
    · show sumZ s.n (up s.cnt b (s.cnt b - 1)) = sum2 s.n fun i j => ((up2 s.rows a b (s.rows a b).tail i j).length : Int)
      rw [sumZ_up hb, len_up2, sum2_up2 ha hb, h.p0]
      unfold S.works
      omega
    · by_cases hp : b ≤ s.place
      · exact Or.inr (Or.inr (Or.inl ⟨b, hp, hb, up_same⟩))
      · have lowE : S.low { s with busy := up s.busy b true, rows := up2 s.rows a b (s.rows a b).tail, cnt := up s.cnt b (s.cnt b - 1), blk := up s.blk b true } = s.low := by
          refine sumZ_congr fun i _ => ?_
          show (if i ≤ s.place then up s.cnt b (s.cnt b - 1) i else 0) = _
          by_cases e : i = b
          · subst e
            rw [if_neg hp, if_neg hp]
          · rw [up_ne e]
        rcases h.ri bg with r | r | r | r
        · refine Or.inr (Or.inl ?_)
          show 0 < S.low _ + s.sum
          rw [lowE, r.sm, low_high, h.p0]
          have := works_row (s := s) ha hb
          omega
        · refine Or.inr (Or.inl ?_)
          show 0 < S.low _ + s.sum
          rw [lowE]
          exact r
        · obtain ⟨i, i1, i2, i3⟩ := r
          refine Or.inr (Or.inr (Or.inl ⟨i, i1, i2, ?_⟩))
          show up s.blk b true i = true
          rw [up_ne (by have i1 : i ≤ s.place := i1; omega)]
          exact i3
        · exact Or.inr (Or.inr (Or.inr r))
    · exact absurd ((h.fq fd).2 a b ha hb) hr
  · show S.rview (S.ringTaken (S.treeTaken _ a b) b) = _
    unfold S.treeTaken
    split <;> rfl
theorem RI.rest {s : S} {a : Nat} (h : RI s) (hc : s.Can (.rest a)) : RI (s.rest a) := by
  obtain ⟨ha, hb⟩ := hc
  refine RI.of (s := { s with busy := up s.busy a false }) ?_ ?_
  · refine ⟨h.p0, fun bg => ?_, fun fd => ?_⟩
    · rcases h.ri bg with r | r | r | r
      · refine Or.inl ⟨fun i hi hn => ?_, r.sm⟩
        show up s.busy a false i = false
        by_cases e : i = a
        · subst e
          exact up_same
        · rw [up_ne e]
          exact r.nb i hi hn
      · exact Or.inr (Or.inl r)
      · exact Or.inr (Or.inr (Or.inl r))
      · exact Or.inr (Or.inr (Or.inr r))
    · have := (h.fq fd).1 a ha
      rw [hb] at this
      cases this
  · show S.rview (S.settle _ a false) = _
    rw [settle_rview]
    unfold S.wRested
    split <;> rfl
theorem sum_split {n : Nat} {f : Nat → Int} {k : Nat} (hk : k < n) : (sumZ n fun i => if i ≤ k then f i else 0) = (sumZ n fun i => if i ≤ k - 1 then f i else 0) + (if k = 0 then 0 else f k) := by
  by_cases k0 : k = 0
  · subst k0
    simp
  · rw [if_neg k0]
    have e : (fun i => if i ≤ k then f i else 0) = up (fun i => if i ≤ k - 1 then f i else 0) k (f k) := by
      funext i
      by_cases e : i = k
      · subst e
        rw [up_same, if_pos (Nat.le_refl _)]
      · rw [up_ne e]
        by_cases h : i ≤ k
        · rw [if_pos h, if_pos (by omega)]
        · rw [if_neg h, if_neg (by omega)]
    rw [e, sumZ_up hk, if_neg (by omega)]
    omega
theorem sum_hi {n : Nat} {f : Nat → Int} {k : Nat} (hk : k < n) (k0 : k ≠ 0) : (sumZ n fun i => if k - 1 < i then f i else 0) = f k + sumZ n fun i => if k < i then f i else 0 := by
  have e : (fun i => if k - 1 < i then f i else 0) = up (fun i => if k < i then f i else 0) k (f k) := by
    funext i
    by_cases e : i = k
    · subst e
      rw [up_same, if_pos (by omega)]
    · rw [up_ne e]
      by_cases h : k < i
      · rw [if_pos h, if_pos (by omega)]
      · rw [if_neg h, if_neg (by omega)]
  rw [e, sumZ_up hk, if_neg (by omega)]
  omega
theorem low0 {n : Nat} {f : Nat → Int} (hn : 0 < n) : (sumZ n fun i => if i ≤ 0 then f i else 0) = f 0 := by
  have e : (fun i => if i ≤ 0 then f i else 0) = up (fun _ => 0) 0 (f 0) := by
    funext i
    by_cases e : i = 0
    · subst e
      rw [up_same]
      rfl
    · rw [up_ne e, if_neg (by omega)]
  rw [e, sumZ_up hn, sumZ_all0 fun _ _ => rfl]
  omega
/-- what the first hand tells from the ring is right -/
theorem RI.clear {s : S} (h : RI s) (hn : 0 < s.n) (hp : s.place = 0) (hb : s.busy 0 = false) (hc : s.clear0 = true) : s.Quiet := by
  unfold S.clear0 at hc
  simp only [Bool.and_eq_true, Bool.not_eq_true', decide_eq_true_eq] at hc
  obtain ⟨bg, ⟨tb, bk⟩, sm⟩ := hc
  have lw : s.low = s.cnt 0 := by
    unfold S.low
    rw [hp]
    exact low0 hn
  rcases h.ri bg with r | r | r | r
  · have w0 : s.works = 0 := by
      rw [← h.p0, ← low_high, ← r.sm, lw]
      omega
    refine ⟨fun i hi => ?_, works0 w0⟩
    by_cases e : i = 0
    · subst e
      exact hb
    · exact r.nb i (by omega) hi
  · have r : 0 < s.low + s.sum := r
    omega
  · obtain ⟨i, i1, i2, i3⟩ := r
    have : i = 0 := by omega
    subst this
    rw [bk] at i3
    cases i3
  · rw [tb] at r
    cases r
theorem RI.pass {s : S} (h : RI s) (hn : 0 < s.n) (hp : s.place < s.n) (hc : s.Can .pass) : RI s.passed := by
  have hc : s.busy s.place = false := hc
  unfold S.passed
  split
  · rename_i p0
    rw [p0] at hc
    refine ⟨h.p0, fun _ => Or.inl ⟨fun i hi hl => ?_, ?_⟩, fun fd => ?_⟩
    · have hi : s.n - 1 < i := hi
      have hl : i < s.n := hl
      omega
    · show (0 : Int) = sumZ s.n fun i => if s.n - 1 < i then s.cnt i else 0
      refine (sumZ_all0 fun i hi => ?_).symm
      rw [if_neg (by omega)]
    · have fd : (s.clear0 || s.found) = true := fd
      rw [Bool.or_eq_true] at fd
      rcases fd with fd | fd
      · exact h.clear hn p0 hc fd
      · exact h.fq fd
  · rename_i p0
    refine ⟨h.p0, fun bg => ?_, h.fq⟩
    rcases h.ri bg with r | r | r | r
    · refine Or.inl ⟨fun i hi hl => ?_, ?_⟩
      · have hi : s.place - 1 < i := hi
        by_cases e : i = s.place
        · subst e
          exact hc
        · exact r.nb i (by omega) hl
      · show s.sum + s.cnt s.place = sumZ s.n fun i => if s.place - 1 < i then s.cnt i else 0
        rw [sum_hi hp p0, r.sm]
        unfold S.high
        omega
    · refine Or.inr (Or.inl ?_)
      show 0 < (sumZ s.n fun i => if i ≤ s.place - 1 then s.cnt i else 0) + (s.sum + s.cnt s.place)
      have r : 0 < (sumZ s.n fun i => if i ≤ s.place then s.cnt i else 0) + s.sum := r
      rw [sum_split hp, if_neg p0] at r
      omega
    · obtain ⟨i, i1, i2, i3⟩ := r
      by_cases e : i = s.place
      · subst e
        refine Or.inr (Or.inr (Or.inr ?_))
        show (s.blk s.place || s.tb) = true
        rw [i3]
        rfl
      · refine Or.inr (Or.inr (Or.inl ⟨i, ?_, i2, ?_⟩))
        · show i ≤ s.place - 1
          omega
        · show up s.blk s.place false i = true
          rw [up_ne e]
          exact i3
    · refine Or.inr (Or.inr (Or.inr ?_))
      show (s.blk s.place || s.tb) = true
      rw [r]
      simp
theorem RI.step {s : S} {a : Act} (h : RI s) (hn : 0 < s.n) (hp : s.place < s.n) (hc : s.Can a) : RI (s.step a) := by
  cases a with
  | send a b => exact h.send hc
  | take a b => exact h.take hc
  | rest a => exact h.rest hc
  | back a b => exact h.of (Eq.trans settle_rview rfl)
  | home a => exact h.of rfl
  | pass => exact h.pass hn hp hc
/-- found stays -/
theorem found_step {s : S} {a : Act} (h : s.found = true) : (s.step a).found = true := by
  have fs : ∀ (s : S) (a : Nat) (w : Bool), (s.settle a w).found = s.found := fun s a w => by unfold S.settle; split <;> rfl
  have ft : ∀ (s : S) (a b : Nat), (s.treeTaken a b).found = s.found := fun s a b => by unfold S.treeTaken; split <;> rfl
  have fw : ∀ (s : S) (a : Nat), (s.wRested a).found = s.found := fun s a => by unfold S.wRested; split <;> rfl
  cases a with
  | send a b => exact h
  | take a b => exact (ft _ a b).trans h
  | rest a => exact (fs _ a false).trans ((fw _ a).trans h)
  | back a b => exact (fs _ a _).trans h
  | home a => exact h
  | pass =>
    show s.passed.found = true
    unfold S.passed
    split
    · show (s.clear0 || s.found) = true
      rw [h]
      simp
    · exact h
/-- what the first hand tells from what is open is right -/
theorem TI.quiet {s : S} (h : TI s) (hn : 0 < s.n) (hb : s.busy 0 = false) (hd : s.due 0 = 0) : s.Quiet := by
  have nob : ∀ i, i < s.n → i ≠ 0 → s.over i = none := by
    intro i hi i0
    cases eo : s.over i with
    | none => rfl
    | some p =>
      exfalso
      have u0 := h.ups0 hi (Or.inr (by rw [eo]; rfl))
      obtain ⟨r, hr⟩ := h.rk
      have key : ∀ k, s.ups k i = 0 → False := by
        intro k
        induction k with
        | zero => exact fun z => i0 z
        | succ k ih =>
          intro z
          by_cases e0 : s.ups k i = 0
          · exact ih e0
          · have c := (h.chain hi (Or.inr (by rw [eo]; rfl)) hr k).1
            obtain ⟨q, hq⟩ := Option.isSome_iff_exists.mp (c.2.resolve_left e0)
            have z : (s.over (s.ups k i)).getD (s.ups k i) = 0 := z
            rw [hq, Option.getD_some] at z
            subst z
            exact h.no_child hn hd c.1 hq
      exact key _ u0
  have all : ∀ i, i < s.n → s.busy i = false ∧ s.due i = 0 := fun i hi => by
    by_cases i0 : i = 0
    · subst i0
      exact ⟨hb, hd⟩
    · exact h.out i hi i0 (nob i hi i0)
  refine ⟨fun i hi => (all i hi).1, fun i j hi hj => ?_⟩
  have h1 := h.term_le hi hj
  have h2 := h.sl i j
  have h3 := (all i hi).2
  cases e : s.rows i j with
  | nil => rfl
  | cons x l =>
    unfold S.term at h1
    rw [e, List.length_cons] at h1
    split at h1 <;> omega
/-- .. from its weight -/
theorem WI.quiet {u : Nat} {s : S} (h : WI u s) (hn : 0 < s.n) (hb : s.busy 0 = false) (hd : s.held 0 = (1, 0)) : s.Quiet := by
  have t := h.tot
  unfold S.total at t
  have n1 : ∀ i, i < s.n → 0 ≤ wv (s.held i) := fun _ _ => wv_nonneg
  have n2 : ∀ i j, i < s.n → j < s.n → 0 ≤ sv (s.rows i j) := fun _ _ _ _ => sv_nonneg
  have n3 : ∀ i, i < s.n → 0 ≤ sv (s.hw i) := fun _ _ => sv_nonneg
  have s1 := sumZ_nonneg n1
  have s2 := sum2_nonneg n2
  have s3 := sumZ_nonneg n3
  have w0 : wv (s.held 0) = 2 ^ 90 := by rw [hd]; rfl
  refine ⟨fun i hi => ?_, fun i j hi hj => ?_⟩
  · by_cases i0 : i = 0
    · subst i0
      exact hb
    · cases eb : s.busy i with
      | false => rfl
      | true =>
        have hp := (h.hp i hi).mpr (Or.inr eb)
        have := wv_pos.mpr hp
        have := sumZ_ge2 n1 hn hi (fun z => i0 z.symm)
        try simp only [] at this
        omega
  · cases e : s.rows i j with
    | nil => rfl
    | cons x l =>
      have hx := h.rp i j hi hj x (by rw [e]; exact List.mem_cons_self)
      have h1 := wv_pos.mpr hx
      have h2 : wv x ≤ sv (s.rows i j) := sv_ge (by rw [e]; exact List.mem_cons_self)
      have h3 := sum2_ge n2 hi hj
      have h4 := sumZ_ge n1 hn
      omega
end QH

/-! Hall.is_quiet. -/
namespace QH
open PySem PySem.Spec PyProof.Rows L2 Evl
abbrev N_Hall_is_quiet : List Str := ["self", "row"]
def t_Hall_is_quiet (K : PySem.W.Frag) : TS :=
  (tRet (tAndV (tNotV (tCB (rAny K) (tCons (tFld K (tVar 0) "busy") tNil))) (tNotV (tCB (rAny K) (tCons (tLockE (tLc (iValsT (tFld K (tVar 0) "rows")) (gName 1) tYes (tOp rGtI (tCB (rLenS K) (tCons (tVar 1) tNil)) (tC (.int 0))) [1])) tNil)))))
section
variable {K : PySem.W.Frag} {Z : Addr → Prop} {σ : L2.St} {H H' : Hp} {ta tb tc te tv : TE} {t u : TT} {x y z v : V} {a C dx p c : Addr} {A : Ad} {s : S} {D : Ends} {j : Nat} {w : Wt} {P : V → Hp → Prop}
theorem u_cb1 {r : List V → Hp → VK → Prop} {Q : VK} (h : te σ H fun x H1 => r [x] H1 Q) : tCB r (tCons te tNil) σ H Q := h
theorem filt_t {α : Type} (l : List α) : (l.filter fun _ => true) = l := List.filter_eq_self.mpr fun _ _ => rfl
theorem walk_valuesT {d : Addr} {o : Obj} {kvs : List (List L2.Key × V)} : Walk (Itvt d o kvs) kvs.length (fun H => H d = some (.frz o (.dT kvs))) (fun i H x H' => H' = H ∧ ∃ k, kvs[i]? = some (k, x)) :=
  ⟨fun _ _ hi q => ⟨q, hi⟩, fun _ q => ⟨q, Nat.le_refl _⟩, fun _ _ _ _ _ _ y => y⟩
def lenAt (s : S) (k : List L2.Key) : Bool := decide (0 < (s.rows (unkey k / 6) (unkey k % 6)).length)
theorem lenAt_key {i j : Nat} (hj : j < 6) : lenAt s (key i j) = decide (0 < (s.rows i j).length) := by
  unfold lenAt
  rw [unkey_key]
  have e1 : (i * 6 + j) / 6 = i := by omega
  have e2 : (i * 6 + j) % 6 = j := by omega
  rw [e1, e2]
theorem mem_of_valV {κ : Type} [DecidableEq κ] : ∀ {kvs : List (κ × V)} {k : κ} {v : V}, valV kvs k = some v → (k, v) ∈ kvs
  | [], k, v, h => by cases h
  | p :: r, k, v, h => by
    by_cases e : p.1 = k
    · rw [valV_pos e] at h
      cases h
      subst e
      exact List.mem_cons_self
    · rw [valV_neg e] at h
      exact List.mem_cons_of_mem _ (mem_of_valV h)
theorem any_rows {kvs : List (List L2.Key × V)} (hk : Keyed s.n kvs) (n6 : s.n ≤ 6) (hr : ∀ i j, i < s.n → j < s.n → RowAt Z H (valV kvs (key i j)) (s.rows i j)) :
    (!(kvs.map fun kv => lenAt s kv.1).any id) = (List.range s.n).all fun i => (List.range s.n).all fun j => (s.rows i j).isEmpty := by
  rw [Bool.eq_iff_iff]
  simp only [Bool.not_eq_true', List.any_map, List.all_eq_true, List.mem_range]
  rw [List.any_eq_false]
  constructor
  · intro h i hi j hj
    cases e : valV kvs (key i j) with
    | none =>
      have := hr i j hi hj
      rw [e] at this
      rw [show s.rows i j = [] from this]
      rfl
    | some v =>
      have := h _ (mem_of_valV e)
      simp only [Function.comp, id] at this
      rw [lenAt_key (by omega)] at this
      cases er : s.rows i j with
      | nil => rfl
      | cons x l =>
        rw [er] at this
        exact absurd rfl this
  · intro h kv hm
    obtain ⟨i, j, hi, hj, e⟩ := hk.ks kv hm
    simp only [Function.comp, id]
    rw [e, lenAt_key (by omega)]
    have := h i hi j hj
    cases er : s.rows i j with
    | nil => decide
    | cons x l =>
      rw [er] at this
      cases this
theorem any_busy {n : Nat} {f : Nat → Bool} : (!(vec n f).any id) = (List.range n).all fun i => !f i := by
  unfold vec
  rw [List.any_map, List.not_any_eq_all_not]
  rfl
theorem pur_Hall_is_quiet (T : TxtK K) : ∀ vs H Q E, sp_Hall_is_quiet K vs H Q E → t_Hall_is_quiet K { nx := fun _ H' => Q .non H', rt := Q } (start N_Hall_is_quiet vs) H := by
  rintro vs H Q E ⟨A, s, Z, rfl, h, n6, k⟩
  show t_Hall_is_quiet K _ [some (.ref A.p), none] H
  unfold t_Hall_is_quiet
  refine s_ret (ev_is (ev_andV (a := !(vec s.n s.busy).any id) (b := (List.range s.n).all fun i => (List.range s.n).all fun j => (s.rows i j).isEmpty) (ev_notV ?_) (fun _ => ev_is (ev_notV (a := !((List.range s.n).all fun i => (List.range s.n).all fun j => (s.rows i j).isEmpty)) ?_) (by rw [Bool.not_not]))) (w := .bl s.quiet) ?_) fun H1 e1 => k H1 e1
  · exact fun H1 e Q k => (ev_Hall_busy T h (ev_var rfl)) H1 e _ fun H2 e2 => ⟨A.busy, vec s.n s.busy, rfl, by
      have : (vec s.n s.busy).map V.bl = vec s.n fun i => .bl (s.busy i) := by simp [vec]
      rw [this]
      exact sq_of ((e.trans e2) _ _ h.busy), k H2 e2⟩
  · refine fun H1 e Q k => u_cb1 ?_
    have h1 := h.mono e
    obtain ⟨kvs, hd, hk, hr⟩ := id h1.rows
    have zr : ∀ {a : Addr} {u : HO}, Z a → H1 a = some u → ∀ od, upd H1 A.rows (.frz od (.dT kvs)) a = some u := fun {a u} z ha od => by
      rw [upd_ne (ne_R (A := A) (by rw [h1.zr a z, h1.ok.r_rows]; decide))]
      exact ha
    refine ⟨A.rows, .dT kvs, hd, trivial, fun od => ?_⟩
    have hp : upd H1 A.rows (.frz od (.dT kvs)) A.p = some (.ins (He.ga K "Hall") A.dx (hallF s.n A.busy A.rows A.tree A.sc A.ring)) := at_ne (by rw [h1.ok.r_p, h1.ok.r_rows]; decide) h1.p
    have hf : upd H1 A.rows (.frz od (.dT kvs)) A.rows = some (.frz od (.dT kvs)) := upd_same
    generalize hF : upd H1 A.rows (.frz od (.dT kvs)) = F at *
    have hrows : Ev (tFld K (tVar 0) "rows") [some (.ref A.p), none] F (.ref A.rows) := ev_fld (ev_var rfl) hp T.clHall (T.aHall _ (by decide +kernel)) (by kernel_rfl)
    unfold tLc iValsT
    refine u_ev hrows fun F1 f1 => ⟨A.rows, od, kvs, rfl, f1 _ _ hf, fun D hD => ?_⟩
    refine lc_it walk_valuesT (PvC (ValR V.bl) F1 D (fun _ => true) (fun i => lenAt s (kvs.getD i ([], .non)).1)) ⟨hD, Ex.new hD, [], upd_same, Nat.le_refl _, trivial⟩ (fun i H' _ p => p.2.1 _ _ (f1 _ _ hf)) ?_ ?_
    · rintro i x H2 H3 hi p ⟨rfl, kk, hkv⟩
      have hm := List.mem_of_getElem? hkv
      obtain ⟨a, b, ha, hb, ek⟩ := hk.ks _ hm
      have ek : kk = key a b := ek
      have hv := valV_of_mem hk.nd hm
      have hrow := hr a b ha hb
      rw [← ek, show valV kvs kk = some x from hv] at hrow
      obtain ⟨l, vs, rfl, zl, hl, hw⟩ := hrow
      have hl1 : F1 l = some (.lst vs) := f1 _ _ (by rw [← hF]; exact zr zl hl od)
      have hlen := hk.len n6
      have e0 : (kvs.getD i ([], .non)).1 = key a b := by rw [getD_of hkv]; exact ek
      refine ⟨rfl, pvc_turn (σ2 := [some (.ref A.p), some (.ref l)]) stb_val p (by omega) et_yes fun _ => ?_⟩
      refine evr_of_ev (ev_op (ev_len (ev_var rfl) (sq_of hl1)) ev_c rv_gt) ?_
      show V.bl (decide ((0 : Int) < ((vs.length : Nat) : Int))) = V.bl (lenAt s _)
      rw [e0, lenAt_key (by omega), hw.len]
      exact congrArg V.bl (decide_eq_decide.mpr (by omega))
    · rintro H2 ⟨p1, p2, us, p3, p4, p5⟩
      have e1 := rels_val p5
      have x2 : Ex H1 (upd H2 A.rows (.dT kvs)) := fun a o ha => by
        by_cases ea : a = A.rows
        · rw [ea, upd_same, ← ha, ea, hd]
        · rw [upd_ne ea]
          refine p2 _ _ (f1 _ _ ?_)
          rw [← hF, upd_ne ea]
          exact ha
      refine ⟨p2 _ _ (f1 _ _ hf), ?_⟩
      have nD : D ≠ A.rows := (ne_of_none (f1 _ _ hf) p1).symm
      refine ⟨D, (List.range kvs.length).map fun i => lenAt s (kvs.getD i ([], .non)).1, rfl, ?_, ?_⟩
      · refine sq_of ?_
        rw [upd_ne nD, p3, e1, filt_t, List.map_map]
      · have e2 : ((List.range kvs.length).map fun i => lenAt s (kvs.getD i ([], .non)).1) = kvs.map fun kv => lenAt s kv.1 := by
          have := range_filter ([], .non) (fun _ => true) (fun kv : List L2.Key × V => lenAt s kv.1) kvs
          rw [filt_t, filt_t] at this
          exact this
        have e3 := any_rows hk n6 hr
        rw [← e3, Bool.not_not] at k
        rw [e2]
        exact k _ x2
  · rw [any_busy]
    rfl
end
end QH

/-! The end: all comes to rest, the ring goes round. -/
namespace QH
def b2i (b : Bool) : Int := if b then 1 else 0
def S.load (s : S) : Int := 2 * s.works + sumZ s.n fun i => b2i (s.busy i)
theorem b2i_nn {b : Bool} : 0 ≤ b2i b := by cases b <;> decide
theorem b2i_le {b : Bool} : b2i b ≤ 1 := by cases b <;> decide
theorem load_nonneg {s : S} : 0 ≤ s.load := by
  have h1 := works_nonneg (s := s)
  have h2 : 0 ≤ sumZ s.n fun i => b2i (s.busy i) := sumZ_nonneg fun i _ => b2i_nn
  unfold S.load
  omega
theorem busy_le : ∀ {n : Nat} {f : Nat → Bool}, (sumZ n fun i => b2i (f i)) ≤ n
  | 0, _ => Int.le_refl _
  | n + 1, f => by
    have h := busy_le (n := n) (f := f)
    have h2 := b2i_le (b := f n)
    show sumZ n _ + b2i (f n) ≤ _
    omega
theorem load_le {s : S} : s.load ≤ 2 * s.works + s.n := by
  have := busy_le (n := s.n) (f := s.busy)
  unfold S.load
  omega
theorem load_quiet {s : S} (h : s.load ≤ 0) : s.Quiet := by
  have h1 := works_nonneg (s := s)
  have h2 : 0 ≤ sumZ s.n fun i => b2i (s.busy i) := sumZ_nonneg fun i _ => b2i_nn
  unfold S.load at h
  have w0 : s.works = 0 := by omega
  have b0 : (sumZ s.n fun i => b2i (s.busy i)) = 0 := by omega
  refine ⟨fun i hi => ?_, works0 w0⟩
  have := sumZ_zero (fun i _ => b2i_nn) b0 i hi
  cases e : s.busy i with
  | false => rfl
  | true =>
    rw [e] at this
    cases this
theorem quiet_load {s : S} (h : s.Quiet) : s.load = 0 := by
  have h1 : s.works = 0 := sumZ_all0 fun i hi => sumZ_all0 fun j hj => by
    show ((s.rows i j).length : Int) = 0
    rw [h.2 i j hi hj]
    rfl
  have h2 : (sumZ s.n fun i => b2i (s.busy i)) = 0 := sumZ_all0 fun i hi => by
    rw [h.1 i hi]
    rfl
  unfold S.load
  omega
theorem b2i_up {f : Nat → Bool} {a : Nat} {v : Bool} : (fun i => b2i (up f a v i)) = up (fun i => b2i (f i)) a (b2i v) := up_comp (g := b2i)
theorem works_take {s : S} {a b : Nat} (ha : a < s.n) (hb : b < s.n) (hr : s.rows a b ≠ []) : (sum2 s.n fun i j => ((up2 s.rows a b (s.rows a b).tail i j).length : Int)) = s.works - 1 := by
  have lt : ((s.rows a b).tail.length : Int) + 1 = (s.rows a b).length := by
    cases e : s.rows a b with
    | nil => exact absurd e hr
    | cons x l => simp
  rw [len_up2, sum2_up2 ha hb]
  unfold S.works
  omega
theorem treeTaken_nbr {s : S} {a b : Nat} : (s.treeTaken a b).n = s.n ∧ (s.treeTaken a b).busy = s.busy ∧ (s.treeTaken a b).rows = s.rows := by
  unfold S.treeTaken
  split <;> exact ⟨rfl, rfl, rfl⟩
theorem take_nbr {s : S} {a b : Nat} : (s.take a b).n = s.n ∧ (s.take a b).busy = up s.busy b true ∧ (s.take a b).rows = up2 s.rows a b (s.rows a b).tail := by
  have := treeTaken_nbr (s := ((s.add b ((s.rows a b).headD (0, 0))).setRow a b (s.rows a b).tail).setBusy b true) (a := a) (b := b)
  exact this
theorem settle_busy {s : S} {a : Nat} {w : Bool} : (s.settle a w).busy = s.busy := by unfold S.settle; split <;> rfl
theorem rest_nbr {s : S} {a : Nat} : (s.rest a).n = s.n ∧ (s.rest a).busy = up s.busy a false ∧ (s.rest a).rows = s.rows := by
  unfold S.rest
  rw [settle_n, settle_busy, settle_rows]
  unfold S.wRested
  split <;> exact ⟨rfl, rfl, rfl⟩
theorem load_take {s : S} {a b : Nat} (hc : s.Can (.take a b)) : (s.step (.take a b)).load < s.load := by
  obtain ⟨⟨ha, hb, hne⟩, hr⟩ := hc
  obtain ⟨e1, e2, e3⟩ := take_nbr (s := s) (a := a) (b := b)
  show (s.take a b).load < s.load
  unfold S.load S.works
  rw [e1, e2, e3, works_take ha hb hr, b2i_up, sumZ_up hb]
  have := b2i_nn (b := s.busy b)
  show 2 * (s.works - 1) + ((sumZ s.n fun i => b2i (s.busy i)) - b2i (s.busy b) + 1) < 2 * s.works + _
  omega
theorem load_rest {s : S} {a : Nat} (hc : s.Can (.rest a)) : (s.step (.rest a)).load < s.load := by
  obtain ⟨ha, hb⟩ := hc
  obtain ⟨e1, e2, e3⟩ := rest_nbr (s := s) (a := a)
  show (s.rest a).load < s.load
  unfold S.load S.works
  rw [e1, e2, e3, b2i_up, sumZ_up ha, hb]
  show 2 * s.works + ((sumZ s.n fun i => b2i (s.busy i)) - 1 + 0) < 2 * s.works + _
  omega
theorem passed_nbr {s : S} : s.passed.n = s.n ∧ s.passed.busy = s.busy ∧ s.passed.rows = s.rows := by
  unfold S.passed
  split <;> exact ⟨rfl, rfl, rfl⟩
theorem works_of {s s' : S} (hn : s'.n = s.n) (hr : s'.rows = s.rows) : s'.works = s.works := by
  unfold S.works
  rw [hn, hr]
theorem back_nbr {s : S} {a b : Nat} : (s.back a b).n = s.n ∧ (s.back a b).busy = s.busy ∧ (s.back a b).rows = s.rows := by
  unfold S.back
  rw [settle_n, settle_busy, settle_rows]
  exact ⟨rfl, rfl, rfl⟩
theorem works_step {s : S} {a : Act} (hc : s.Can a) : (s.step a).works ≤ s.works + 1 := by
  cases a with
  | send a b =>
    obtain ⟨⟨ha, hb, hne⟩, hbusy⟩ := hc
    show (sum2 s.n fun i j => ((up2 s.rows a b (s.rows a b ++ [half (s.held a)]) i j).length : Int)) ≤ s.works + 1
    rw [len_up2, sum2_up2 ha hb, List.length_append, List.length_singleton]
    unfold S.works
    omega
  | take a b =>
    obtain ⟨⟨ha, hb, hne⟩, hr⟩ := hc
    obtain ⟨e1, e2, e3⟩ := take_nbr (s := s) (a := a) (b := b)
    show (sum2 (s.take a b).n fun i j => (((s.take a b).rows i j).length : Int)) ≤ _
    rw [e1, e3, works_take ha hb hr]
    omega
  | rest a =>
    have := works_of (rest_nbr (s := s) (a := a)).1 (rest_nbr (s := s) (a := a)).2.2
    show (s.rest a).works ≤ _
    omega
  | back a b =>
    have := works_of (back_nbr (s := s) (a := a) (b := b)).1 (back_nbr (s := s) (a := a) (b := b)).2.2
    show (s.back a b).works ≤ _
    omega
  | home a =>
    show s.works ≤ _
    omega
  | pass =>
    have := works_of (passed_nbr (s := s)).1 (passed_nbr (s := s)).2.2
    show s.passed.works ≤ _
    omega
/-- what keeps a quiet hall quiet -/
theorem quiet_of {s s' : S} (h : s.Quiet) (hn : s'.n = s.n) (hb : s'.busy = s.busy) (hr : s'.rows = s.rows) : s'.Quiet := by
  unfold S.Quiet
  rw [hn, hb, hr]
  exact h
theorem quiet_pass {s : S} (h : s.Quiet) : s.passed.Quiet := quiet_of h passed_nbr.1 passed_nbr.2.1 passed_nbr.2.2
theorem quiet_can {s : S} (h : s.Quiet) (hp : s.place < s.n) : s.Can .pass := h.1 _ hp
/-! ### once round the ring -/
theorem pass_zero {s : S} (h : s.place = 0) : s.passed = { s with found := s.clear0 || s.found, begun := true, sum := 0, tb := false, place := s.n - 1, blk := up s.blk 0 false } := by
  unfold S.passed
  rw [if_pos h]
theorem pass_pos {s : S} (h : s.place ≠ 0) : s.passed = { s with sum := s.sum + s.cnt s.place, tb := s.blk s.place || s.tb, place := s.place - 1, blk := up s.blk s.place false } := by
  unfold S.passed
  rw [if_neg h]
theorem passed_cnt {s : S} : s.passed.cnt = s.cnt := by
  unfold S.passed
  split <;> rfl
theorem sum_zero {s : S} (h : s.place = 0) : s.passed.sum = s.passed.high := by
  rw [pass_zero h]
  show (0 : Int) = sumZ s.n fun i => if s.n - 1 < i then s.cnt i else 0
  refine (sumZ_all0 fun i hi => ?_).symm
  rw [if_neg (by omega)]
theorem sum_pos {s : S} (h : s.place ≠ 0) (hp : s.place < s.n) (hs : s.sum = s.high) : s.passed.sum = s.passed.high := by
  rw [pass_pos h]
  show s.sum + s.cnt s.place = sumZ s.n fun i => if s.place - 1 < i then s.cnt i else 0
  rw [sum_hi hp h, hs]
  unfold S.high
  omega
theorem high_cnt {s : S} (hn : 0 < s.n) (hp : s.place = 0) : s.high + s.cnt 0 = sumZ s.n s.cnt := by
  have lw : s.low = s.cnt 0 := by
    unfold S.low
    rw [hp]
    exact low0 hn
  rw [← low_high, lw]
  omega
theorem place_zero {s : S} (h : s.place = 0) : s.passed.place = s.n - 1 := by rw [pass_zero h]
theorem place_pos {s : S} (h : s.place ≠ 0) : s.passed.place = s.place - 1 := by rw [pass_pos h]
structure A3 (s : S) : Prop where
  bg : s.begun = true
  tb : s.tb = false
  sm : s.sum = s.high
  bk : ∀ i, i < s.n → s.blk i = false
def A2 (s : S) : Prop := ∀ i, i < s.n → s.place < i → s.blk i = false
/-- at most m turns are wanting -/
def Left (m : Nat) (s : S) : Prop := s.found = true ∨ (A3 s ∧ s.place + 1 ≤ m) ∨ (A2 s ∧ s.place + 1 + s.n ≤ m) ∨ s.place + 1 + 2 * s.n ≤ m
theorem Left.step {m : Nat} {s : S} (h : Left (m + 1) s) (hn : 0 < s.n) (hp : s.place < s.n) (hc : sumZ s.n s.cnt = 0) : Left m s.passed := by
  by_cases p0 : s.place = 0
  · rcases h with h | ⟨h, hm⟩ | ⟨h, hm⟩ | hm
    · refine Or.inl ?_
      rw [pass_zero p0]
      show (s.clear0 || s.found) = true
      rw [h]
      simp
    · refine Or.inl ?_
      rw [pass_zero p0]
      show (s.clear0 || s.found) = true
      have := high_cnt hn p0
      have hs := h.sm
      have e : s.clear0 = true := by
        unfold S.clear0
        rw [h.bg, h.tb, h.bk 0 hn, decide_eq_true (by omega)]
        rfl
      rw [e]
      rfl
    · refine Or.inr (Or.inl ⟨⟨?_, ?_, sum_zero p0, fun i hi => ?_⟩, ?_⟩)
      · rw [pass_zero p0]
      · rw [pass_zero p0]
      · rw [pass_zero p0] at hi ⊢
        show up s.blk 0 false i = false
        by_cases e : i = 0
        · subst e
          exact up_same
        · rw [up_ne e]
          exact h i hi (by omega)
      · rw [place_zero p0]
        omega
    · refine Or.inr (Or.inr (Or.inl ⟨fun i hi hl => ?_, ?_⟩))
      · rw [place_zero p0] at hl
        rw [passed_nbr.1] at hi
        omega
      · rw [place_zero p0, passed_nbr.1]
        omega
  · rcases h with h | ⟨h, hm⟩ | ⟨h, hm⟩ | hm
    · refine Or.inl ?_
      rw [pass_pos p0]
      exact h
    · refine Or.inr (Or.inl ⟨⟨?_, ?_, sum_pos p0 hp h.sm, fun i hi => ?_⟩, ?_⟩)
      · rw [pass_pos p0]
        exact h.bg
      · rw [pass_pos p0]
        show (s.blk s.place || s.tb) = false
        rw [h.bk _ hp, h.tb]
        rfl
      · rw [pass_pos p0] at hi ⊢
        show up s.blk s.place false i = false
        by_cases e : i = s.place
        · subst e
          exact up_same
        · rw [up_ne e]
          exact h.bk i hi
      · rw [place_pos p0]
        omega
    · refine Or.inr (Or.inr (Or.inl ⟨fun i hi hl => ?_, ?_⟩))
      · rw [place_pos p0] at hl
        rw [pass_pos p0] at hi ⊢
        show up s.blk s.place false i = false
        by_cases e : i = s.place
        · subst e
          exact up_same
        · rw [up_ne e]
          exact h i hi (by omega)
      · rw [place_pos p0, passed_nbr.1]
        omega
    · refine Or.inr (Or.inr (Or.inr ?_))
      rw [place_pos p0, passed_nbr.1]
      omega
theorem Left.done {s : S} (h : Left 0 s) : s.found = true := by
  rcases h with h | ⟨_, h⟩ | ⟨_, h⟩ | h
  · exact h
  · omega
  · omega
  · omega
/-! ### the receipts -/
def S.open_ (s : S) : Int := sumZ s.n s.due
theorem exists_max {P : Nat → Prop} (r : Nat → Nat) : ∀ n, (∃ h, h < n ∧ P h) → ∃ h, h < n ∧ P h ∧ ∀ k, k < n → P k → r k ≤ r h
  | 0, ⟨h, hh, _⟩ => by omega
  | n + 1, ⟨h, hh, hp⟩ => by
    by_cases e : ∃ h, h < n ∧ P h
    · obtain ⟨m, m1, m2, m3⟩ := exists_max r n e
      by_cases c : P n ∧ r m < r n
      · refine ⟨n, by omega, c.1, fun k hk pk => ?_⟩
        by_cases ek : k = n
        · subst ek
          exact Nat.le_refl _
        · have := m3 k (by omega) pk
          omega
      · refine ⟨m, by omega, m2, fun k hk pk => ?_⟩
        by_cases ek : k = n
        · subst ek
          have : ¬ r m < r k := fun z => c ⟨pk, z⟩
          omega
        · exact m3 k (by omega) pk
    · have : h = n := by
        by_cases z : h < n
        · exact absurd ⟨h, z, hp⟩ e
        · omega
      subst this
      refine ⟨h, hh, hp, fun k hk pk => ?_⟩
      by_cases ek : k = h
      · subst ek
        exact Nat.le_refl _
      · exact absurd ⟨k, by omega, pk⟩ e
/-- nothing is open of the first hand: then of none, and none hangs below another -/
theorem TI.all_out {s : S} (h : TI s) (hn : 0 < s.n) (hq : s.Quiet) (hd : s.due 0 = 0) : ∀ i, i < s.n → s.due i = 0 ∧ s.over i = none := by
  have nob : ∀ i, i < s.n → i ≠ 0 → s.over i = none := by
    intro i hi i0
    cases eo : s.over i with
    | none => rfl
    | some p =>
      exfalso
      have u0 := h.ups0 hi (Or.inr (by rw [eo]; rfl))
      obtain ⟨r, hr⟩ := h.rk
      have key : ∀ k, s.ups k i = 0 → False := by
        intro k
        induction k with
        | zero => exact fun z => i0 z
        | succ k ih =>
          intro z
          by_cases e0 : s.ups k i = 0
          · exact ih e0
          · have c := (h.chain hi (Or.inr (by rw [eo]; rfl)) hr k).1
            obtain ⟨q, hq⟩ := Option.isSome_iff_exists.mp (c.2.resolve_left e0)
            have z : (s.over (s.ups k i)).getD (s.ups k i) = 0 := z
            rw [hq, Option.getD_some] at z
            subst z
            exact h.no_child hn hd c.1 hq
      exact key _ u0
  intro i hi
  by_cases i0 : i = 0
  · subst i0
    exact ⟨hd, h.o0⟩
  · exact ⟨(h.out i hi i0 (nob i hi i0)).2, nob i hi i0⟩
theorem TI.open_nonneg {s : S} (h : TI s) : 0 ≤ s.open_ := sumZ_nonneg fun i hi => h.due0 hi
theorem TI.open_zero {s : S} (h : TI s) (ho : s.open_ = 0) : ∀ i, i < s.n → s.due i = 0 := sumZ_zero (fun i hi => h.due0 hi) ho
theorem TI.root {s : S} (h : TI s) (hn : 0 < s.n) (hq : s.Quiet) (ho : 0 < s.open_) : s.due 0 ≠ 0 := fun hd => by
  have := h.all_out hn hq hd
  have e : s.open_ = 0 := sumZ_all0 fun i hi => (this i hi).1
  omega
/-- as long as something is open there is a receipt on its way -/
theorem TI.receipt {s : S} (h : TI s) (hn : 0 < s.n) (hq : s.Quiet) (ho : 0 < s.open_) : ∃ a b, Two s.n a b ∧ 0 < s.slips a b := by
  obtain ⟨r, hr⟩ := h.rk
  obtain ⟨m, m1, m2, m3⟩ := exists_max (P := fun i => i = 0 ∨ (s.over i).isSome = true) r s.n ⟨0, hn, Or.inl rfl⟩
  have nc : ∀ c, c < s.n → s.over c ≠ some m := fun c hc e => by
    have h1 := (hr c m hc e).2.2
    have h2 := m3 c hc (Or.inr (by rw [e]; rfl))
    omega
  have hd : s.due m ≠ 0 := by
    by_cases m0 : m = 0
    · subst m0
      exact h.root hn hq ho
    · exact h.st m m1 m0 (m2.resolve_left m0) (hq.1 m m1)
  by_cases e : ∃ b, b < s.n ∧ 0 < s.slips m b
  · obtain ⟨b, hb, hs⟩ := e
    refine ⟨m, b, ⟨m1, hb, fun z => ?_⟩, hs⟩
    subst z
    rw [h.sd] at hs
    omega
  · exfalso
    refine hd ?_
    rw [h.due m m1]
    refine sumZ_all0 fun o ho => ?_
    unfold S.term
    rw [hq.2 m o m1 ho, if_neg (nc o ho)]
    have h1 := h.sl m o
    have h2 : ¬ 0 < s.slips m o := fun z => e ⟨o, ho, z⟩
    show ((([] : List Wt).length : Nat) : Int) + s.slips m o + 0 = 0
    rw [List.length_nil]
    omega
theorem settle_due {s : S} {a : Nat} {w : Bool} : (s.settle a w).due = s.due := by unfold S.settle; split <;> rfl
theorem open_back {s : S} {a b : Nat} (hc : s.Can (.back a b)) : (s.step (.back a b)).open_ = s.open_ - 1 := by
  obtain ⟨⟨ha, hb, hne⟩, hs⟩ := hc
  show (s.back a b).open_ = _
  unfold S.open_ S.back
  rw [settle_n, settle_due]
  show sumZ s.n (up s.due a (s.due a - 1)) = _
  rw [sumZ_up ha]
  omega
theorem quiet_back {s : S} {a b : Nat} (h : s.Quiet) : (s.step (.back a b)).Quiet := quiet_of h back_nbr.1 back_nbr.2.1 back_nbr.2.2
theorem quiet_home {s : S} {a : Nat} (h : s.Quiet) : (s.step (.home a)).Quiet := quiet_of h rfl rfl rfl
theorem TI.no_slip {s : S} (h : TI s) (ho : s.open_ = 0) {a b : Nat} (ha : a < s.n) (hb : b < s.n) : ¬ 0 < s.slips a b := fun z => by
  have := h.slip_in ha hb z
  have := h.open_zero ho a ha
  omega
/-! ### the weights on their way home -/
def S.home_ (s : S) : Int := sumZ s.n fun i => ((s.hw i).length : Int)
theorem home_nonneg {s : S} : 0 ≤ s.home_ := sumZ_nonneg fun _ _ => by omega
theorem home_step {s : S} {a : Nat} (hc : s.Can (.home a)) : (s.step (.home a)).home_ = s.home_ - 1 := by
  obtain ⟨a0, ha, hne⟩ := hc
  have lt : ((s.hw a).tail.length : Int) + 1 = (s.hw a).length := by
    cases e : s.hw a with
    | nil => exact absurd e hne
    | cons x l => simp
  show (sumZ s.n fun i => ((up s.hw a (s.hw a).tail i).length : Int)) = _
  rw [up_comp (g := fun l : List Wt => (l.length : Int)), sumZ_up ha]
  unfold S.home_
  omega
theorem WI.held0 {u : Nat} {s : S} (h : WI u s) (hn : 0 < s.n) (hq : s.Quiet) : wv (s.held 0) + (sumZ s.n fun i => sv (s.hw i)) = 2 ^ 90 := by
  have t := h.tot
  unfold S.total at t
  have e1 : (sum2 s.n fun i j => sv (s.rows i j)) = 0 := sumZ_all0 fun i hi => sumZ_all0 fun j hj => by
    show sv (s.rows i j) = 0
    rw [hq.2 i j hi hj]
    rfl
  have e2 : (sumZ s.n fun i => wv (s.held i)) = wv (s.held 0) := by
    have e : (sumZ s.n fun i => wv (s.held i)) = sumZ s.n (up (fun _ => 0) 0 (wv (s.held 0))) := sumZ_congr fun i hi => by
      by_cases i0 : i = 0
      · subst i0
        rw [up_same]
      · rw [up_ne i0]
        refine wv_zero ?_
        have : ¬ 0 < (s.held i).1 := fun z => by
          rcases (h.hp i hi).mp z with z | z
          · exact i0 z
          · rw [hq.1 i hi] at z
            cases z
        omega
    rw [e, sumZ_up hn, sumZ_all0 fun _ _ => rfl]
    omega
  rw [e1, e2] at t
  omega
theorem WI.not_home {u : Nat} {s : S} (h : WI u s) (hn : 0 < s.n) (hq : s.Quiet) {a : Nat} (ha : a < s.n) (hw : s.hw a ≠ []) : s.held 0 ≠ (1, 0) := fun e => by
  have h0 := h.held0 hn hq
  have w0 : wv (s.held 0) = 2 ^ 90 := by rw [e]; rfl
  have n3 : ∀ i, i < s.n → 0 ≤ sv (s.hw i) := fun _ _ => sv_nonneg
  have h1 := sumZ_ge n3 ha
  cases el : s.hw a with
  | nil => exact hw el
  | cons x l =>
    have hx := h.wp a ha x (by rw [el]; exact List.mem_cons_self)
    have h2 := wv_pos.mpr hx
    have h3 : wv x ≤ sv (s.hw a) := sv_ge (by rw [el]; exact List.mem_cons_self)
    have h1 : sv (s.hw a) ≤ _ := h1
    omega
theorem WI.at_home {u : Nat} {s : S} (h : WI u s) (hu : u ≤ 90) (hn : 0 < s.n) (hq : s.Quiet) (hw : ∀ a, a < s.n → s.hw a = []) : s.held 0 = (1, 0) := by
  have h0 := h.held0 hn hq
  rw [sumZ_all0 fun i hi => by rw [hw i hi]; rfl] at h0
  obtain ⟨hp, hf⟩ := h.pw.h 0 hn
  generalize s.held 0 = w at h0 hp hf
  obtain ⟨x, p⟩ := w
  have h0 : (x : Int) * 2 ^ (90 - p) = 2 ^ 90 := by
    have : wv (x, p) = (x : Int) * 2 ^ (90 - p) := rfl
    omega
  have hp : p ≤ u := hp
  have e : (2 : Int) ^ 90 = 2 ^ p * 2 ^ (90 - p) := by rw [← Int.pow_add]; congr 1; omega
  rw [e] at h0
  have h1 : (x : Int) = 2 ^ p := Int.eq_of_mul_eq_mul_right (Int.ne_of_gt pow_pos2) h0
  have h2 : x = 2 ^ p := by exact_mod_cast h1
  rcases hf with hf | hf | hf
  · have : x = 0 := congrArg Prod.fst hf
    have := Nat.two_pow_pos p
    omega
  · have hf : x % 2 = 1 := hf
    cases p with
    | zero => rw [h2]
    | succ p =>
      rw [Nat.pow_succ] at h2
      omega
  · have hf : p = 0 ∧ x ≠ 0 := hf
    rw [h2, hf.1]
/-- hand 0 sends itself nothing -/
theorem hw0_step {s : S} {a : Act} (h : s.hw 0 = []) (hc : s.Can a) : (s.step a).hw 0 = [] := by
  have ft : ∀ (s : S) (a b : Nat), (s.treeTaken a b).hw = s.hw := fun s a b => by unfold S.treeTaken; split <;> rfl
  cases a with
  | send a b => exact h
  | take a b => exact (congrFun (ft _ a b) 0).trans h
  | rest a =>
    show (S.settle _ a false).hw 0 = []
    rw [settle_hw]
    unfold S.wRested
    split
    · rename_i h0
      show up s.hw a _ 0 = []
      rw [up_ne (by omega)]
      exact h
    · exact h
  | back a b =>
    show (S.settle _ a _).hw 0 = []
    rw [settle_hw]
    exact h
  | home a =>
    obtain ⟨a0, ha, _⟩ := hc
    show up s.hw a _ 0 = []
    rw [up_ne (by omega)]
    exact h
  | pass =>
    show s.passed.hw 0 = []
    unfold S.passed
    split <;> exact h
end QH

/-! More that evaluates. -/
namespace QH
open PySem PySem.Spec PyProof.Rows L2 Evl
section
variable {K : PySem.W.Frag} {Z : Addr → Prop} {σ : L2.St} {H H' : Hp} {ta tb tc te tv : TE} {t u : TT} {x y z v : V} {a C dx p c : Addr} {A : Ad} {s : S} {D : Ends} {j : Nat} {w : Wt} {P : V → Hp → Prop}
theorem wls_rels : ∀ {us : List V} {ws : List Wt}, WLs Z H us ws → Rels (fun (w : Wt) v H => WV (fun _ => True) H v w) H us ws
  | [], [], _ => trivial
  | _ :: _, _ :: _, h => ⟨let ⟨q, e, _, hq⟩ := h.1; ⟨q, e, trivial, hq⟩, wls_rels h.2⟩
  | [], _ :: _, h => h.elim
  | _ :: _, [], h => h.elim
theorem ev_lenTup {q : Addr} {us : List V} (h : Ev ta σ H (.ref q)) (hq : H q = some (.tup us)) : Ev (tCB (rLenS K) (tCons ta tNil)) σ H (.int (us.length : Nat)) := fun H1 e Q k => h H1 e _ fun H2 e2 => ⟨q, us, rfl, Or.inr (st_of ((e.trans e2) _ _ hq)), k H2 e2⟩
theorem ev_fstR (h : EvR te σ H fun v H2 => WV Z H2 v w) : Ev (tOp (rIxT K) te (tC (.int 0))) σ H (.int w.1) := fun H1 e Q k => h H1 e _ fun v H2 e2 ⟨q, ev, _, hq⟩ => by
  subst ev
  exact ⟨q, wT w, 0, _, rfl, rfl, st_of hq, atI_nat (j := 0) rfl, k H2 e2⟩
theorem wt_fst {q : Addr} (h : Ev ta σ H (.ref q)) (hq : H q = some (.tup (wT w))) : Ev (tOp (rIxT K) ta (tC (.int 0))) σ H (.int w.1) := ev_fst h hq
theorem evr_weights_on (h : HallAt K Z H A s) {i j : Nat} (ho : Ev ta σ H (.ref A.p)) (hi : Ev tb σ H (.int i)) (hj : Ev tc σ H (.int j)) (hl : Two s.n i j) :
    EvR (tMeth (He.ga K "Hall") "weights_on" (sp_Hall_weights_on K) [] E0 ta (tCons tb (tCons tc tNil))) σ H (fun v H2 => ∃ q us, v = .ref q ∧ H q = none ∧ H2 q = some (.tup us) ∧ WLs Z H2 us (s.rows i j)) :=
  evr_meth ho h.p (by kernel_rfl) (ea_cons hi (ea_cons hj ea_nil)) fun H1 e Q q E => ⟨A, s, Z, i, j, rfl, h.mono e, hl, fun H' r us e' nr hr hw => q _ H' e' ⟨r, us, rfl, fresh_back e nr, hr, hw⟩⟩
theorem evr_weight_of (h : HallAt K Z H A s) {i : Nat} (ho : Ev ta σ H (.ref A.p)) (hi : Ev tb σ H (.int i)) (hl : i < s.n) :
    EvR (tMeth (He.ga K "Hall") "weight_of" (sp_Hall_weight_of K) [] E0 ta (tCons tb tNil)) σ H (fun v H2 => WV Z H2 v (s.held i)) :=
  evr_meth ho h.p (by kernel_rfl) (ea_cons hi ea_nil) fun H1 e Q q E => ⟨A, s, Z, i, rfl, h.mono e, hl, fun H' v e' hw => q _ H' e' hw⟩
theorem evr_weights_home (h : HallAt K Z H A s) {i : Nat} (ho : Ev ta σ H (.ref A.p)) (hi : Ev tb σ H (.int i)) (hl : i < s.n) :
    EvR (tMeth (He.ga K "Hall") "weights_home" (sp_Hall_weights_home K) [] E0 ta (tCons tb tNil)) σ H (fun v H2 => ∃ q us, v = .ref q ∧ H q = none ∧ H2 q = some (.tup us) ∧ WLs Z H2 us (s.hw i)) :=
  evr_meth ho h.p (by kernel_rfl) (ea_cons hi ea_nil) fun H1 e Q q E => ⟨A, s, Z, i, rfl, h.mono e, hl, fun H' r us e' nr hr hw => q _ H' e' ⟨r, us, rfl, fresh_back e nr, hr, hw⟩⟩
/-- list(t), t a tuple -/
theorem evr_listT {R : List V → Hp → Prop} (h : EvR te σ H fun v H2 => ∃ q us, v = .ref q ∧ H2 q = some (.tup us) ∧ R us H2) (hR : ∀ us H1 H2, Ex H1 H2 → R us H1 → R us H2) :
    EvR (tCB (rListS K) (tCons te tNil)) σ H (fun v H2 => ∃ q us, v = .ref q ∧ H q = none ∧ H2 q = some (.lst us) ∧ R us H2) := fun H1 e Q k => h H1 e _ fun v H2 e2 ⟨q, us, ev, hq, hr⟩ => by
  subst ev
  exact ⟨q, us, rfl, Or.inr (st_of hq), fun l hl => k _ _ (e2.trans (Ex.new hl)) ⟨l, us, rfl, fresh_back (e.trans e2) hl, upd_same, hR us _ _ (Ex.new hl) hr⟩⟩
theorem take_succ' {α : Type} {l : List α} {i : Nat} {x : α} (h : l[i]? = some x) : l.take (i + 1) = l.take i ++ [x] := by
  rw [List.take_add_one, h]
  rfl
theorem roads_len36 {n : Nat} (hn : n ≤ 6) : (roads n).length ≤ 36 := by
  have : ∀ i, (roadsTo n i).length ≤ n * i := by
    intro i
    induction i with
    | zero => exact Nat.le_refl _
    | succ i ih =>
      rw [roadsTo_succ, List.length_append, List.length_map]
      have := List.length_filter_le (fun j => decide (i ≠ j)) (List.range n)
      rw [List.length_range] at this
      rw [Nat.mul_succ]
      omega
  exact Nat.le_trans (this n) (Nat.mul_le_mul hn hn)
theorem ev_above (h : HallAt K Z H A s) {i : Nat} (ho : Ev ta σ H (.ref A.p)) (hi : Ev tb σ H (.int i)) (hl : i < s.n) :
    Ev (tMeth (He.ga K "Hall") "above" (sp_Hall_above K) [] E0 ta (tCons tb tNil)) σ H (ovV (s.over i)) :=
  ev_meth ho h.p (by kernel_rfl) (ea_cons hi ea_nil) (spv_ask1 (rcv := (·.p)) (val := fun s a => ovV (s.over a)) h hl)
theorem ev_open_of (h : HallAt K Z H A s) {i : Nat} (ho : Ev ta σ H (.ref A.p)) (hi : Ev tb σ H (.int i)) (hl : i < s.n) :
    Ev (tMeth (He.ga K "Hall") "open_of" (sp_Hall_open_of K) [] E0 ta (tCons tb tNil)) σ H (.int (s.due i)) :=
  ev_meth ho h.p (by kernel_rfl) (ea_cons hi ea_nil) (spv_ask1 (rcv := (·.p)) (val := fun s a => .int (s.due a)) h hl)
theorem eqV_ov {o : Option Nat} {a : Nat} : eqV (ovV o) (.int a) = decide (o = some a) := by
  cases o with
  | none => rfl
  | some b =>
    show ((b : Int) == (a : Int)) = _
    by_cases e : b = a
    · subst e
      simp
    · have : ¬ (b : Int) = (a : Int) := by omega
      simp [e, this]
theorem count_ov {f : Nat → Option Nat} {a : Nat} : ∀ {n : Nat}, (((vec n fun i => ovV (f i)).countP (fun z => eqV z (.int a)) : Nat) : Int) = sumZ n fun o => if f o = some a then 1 else 0
  | 0 => rfl
  | n + 1 => by
    rw [vec_succ, List.countP_append]
    show _ = sumZ n _ + _
    rw [← count_ov (n := n)]
    rw [List.countP_cons, List.countP_nil, eqV_ov]
    by_cases e : f n = some a
    · simp [e]
    · simp [e]
theorem ov_flat {f : Nat → Option Nat} {n : Nat} : (vec n fun i => ovV (f i)).all flatV = true := by
  rw [List.all_eq_true]
  intro z hz
  obtain ⟨i, _, rfl⟩ := List.mem_map.mp hz
  cases f i <;> rfl
theorem dpAll_ints {l : List Nat} : DpAll K H (l.map fun (i : Nat) => V.int (i : Int)) (l.map fun (i : Nat) => PyData.int (i : Int)) := by
  induction l with
  | nil => exact .nil
  | cons a l ih => exact .cons (.int _) ih
theorem shaped_ints {l : List Nat} : SeqAt.shaped (.tuple (l.map fun (i : Nat) => PyData.int (i : Int))) = true := by
  have h1 : PyData.canLayAll0 (l.map fun (i : Nat) => PyData.int (i : Int)) = true := by
    induction l with
    | nil => rfl
    | cons a l ih =>
      rw [List.map_cons, PyData.canLayAll0, ih]
      rfl
  have h2 : PyData.depthAll (l.map fun (i : Nat) => PyData.int (i : Int)) = 0 := by
    induction l with
    | nil => rfl
    | cons a l ih =>
      rw [List.map_cons, PyData.depthAll, ih (by rw [List.map_cons, PyData.canLayAll0, Bool.and_eq_true] at h1; exact h1.2)]
      rfl
  unfold SeqAt.shaped
  rw [Bool.and_eq_true, decide_eq_true_eq, PyData.canLay0, PyData.depth, h1, h2]
  exact ⟨rfl, by decide⟩
theorem ev_neUnit {l : List Nat} (h : EvU ta σ H (l.map fun (i : Nat) => V.int (i : Int))) : Ev (tOp (rNeD K) ta (tTup tNil)) σ H (.bl (decide (l ≠ []))) := fun H1 e Q k =>
  h H1 e _ fun q H2 nq e2 hq => (eu_tup (vs := []) ea_nil (by decide) : EvU (tTup tNil) σ H2 []) H2 (Ex.refl H2) _ fun r H3 n e3 hr =>
    ⟨.tuple (l.map fun (i : Nat) => PyData.int (i : Int)), .tuple [], .tup (st_of (e3 _ _ hq)) dpAll_ints, .tup (st_of hr) .nil, shaped_ints, rfl, by
      have : (!PyData.eqv (.tuple (l.map fun (i : Nat) => PyData.int (i : Int))) (.tuple [])) = decide (l ≠ []) := by
        cases l with
        | nil => rfl
        | cons a l => rfl
      rw [this]
      exact k H3 (e2.trans e3)⟩
theorem eu_told (h : HallAt K Z H A s) (hn : 0 < s.n) (ho : Ev ta σ H (.ref A.p)) : EvU (tMeth (He.ga K "Hall") "told" (sp_Hall_told K) [] E0 ta tNil) σ H (s.told.map V.bl) := fun H1 e Q q =>
  ho H1 e _ fun H2 e2 => ⟨A.p, A.dx, _, rfl, (e.trans e2) _ _ h.p, by kernel_rfl, ⟨A, s, Z, rfl, h.mono (e.trans e2), hn, fun H' r e' nr hr => q r H' (fresh_back e2 nr) (e2.trans e') hr⟩⟩
theorem told_flat : (s.told.map V.bl).all flatV = true := rfl
theorem in_told : inV (.bl true) (s.told.map V.bl) = decide (true ∈ s.told) := by
  unfold S.told
  generalize (!s.busy 0 && decide (s.due 0 = 0)) = b1
  generalize (!s.busy 0 && decide (s.held 0 = (1, 0))) = b2
  generalize s.found = b3
  cases b1 <;> cases b2 <;> cases b3 <;> rfl
theorem ev_cell {a : Addr} {ns : List Int} {k : Nat} (h1 : Ev ta σ H (.ref a)) (h2 : Ev tb σ H (.int k)) (hS : SqL K H a (ns.map V.int)) : Ev (tCall (sp_l_cell K) [] E0 (tCons ta (tCons tb tNil))) σ H (.int (cell ns k)) :=
  ev_call (vs := [.ref a, .int k]) (ea_cons h1 (ea_cons h2 ea_nil)) (spv_cell hS)
theorem kp_sq {A : Ad} {H H' : Hp} {a : Addr} {xs : List V} (h : SqL K H a xs) (hk : Kp A H H') (hz : ∀ o, H a = some o → A.R a = 0) : SqL K H' a xs := by
  rcases h with h | h
  · refine Or.inl ?_
    rcases h with h | ⟨o, h⟩
    · exact Or.inl (hk _ _ h (hz _ h))
    · exact Or.inr ⟨o, hk _ _ h (hz _ h)⟩
  · exact Or.inr h
theorem ev_is_quiet (h : HallAt K Z H A s) (n6 : s.n ≤ 6) (ho : Ev ta σ H (.ref A.p)) : Ev (tMeth (He.ga K "Hall") "is_quiet" (sp_Hall_is_quiet K) [] E0 ta tNil) σ H (.bl s.quiet) :=
  ev_meth ho h.p (by kernel_rfl) ea_nil fun H1 e Q q E => ⟨A, s, Z, rfl, h.mono e, n6, fun H' e' => q H' e'⟩
theorem ev_count_of (h : HallAt K Z H A s) {i : Nat} (ho : Ev ta σ H (.ref A.p)) (hi : Ev tb σ H (.int i)) (hl : i < s.n) :
    Ev (tMeth (He.ga K "Hall") "count_of" (sp_Hall_count_of K) [] E0 ta (tCons tb tNil)) σ H (.int (s.cnt i)) :=
  ev_meth ho h.p (by kernel_rfl) (ea_cons hi ea_nil) (spv_ask1 (rcv := (·.p)) (val := fun s a => .int (s.cnt a)) h hl)
theorem ev_colour_of (h : HallAt K Z H A s) {i : Nat} (ho : Ev ta σ H (.ref A.p)) (hi : Ev tb σ H (.int i)) (hl : i < s.n) :
    Ev (tMeth (He.ga K "Hall") "colour_of" (sp_Hall_colour_of K) [] E0 ta (tCons tb tNil)) σ H (colS (s.blk i)) :=
  ev_meth ho h.p (by kernel_rfl) (ea_cons hi ea_nil) (spv_ask1 (rcv := (·.p)) (val := fun s a => colS (s.blk a)) h hl)
theorem quiet_eq {s : S} : s.quiet = true ↔ s.Quiet := by
  unfold S.quiet S.Quiet
  rw [Bool.and_eq_true, List.all_eq_true, List.all_eq_true]
  simp only [List.mem_range, Bool.not_eq_true', List.all_eq_true, List.isEmpty_iff]
  exact ⟨fun h => ⟨h.1, fun i j hi hj => h.2 i hi j hj⟩, fun h => ⟨h.1, fun i hi j hj => h.2 i j hi hj⟩⟩
theorem choices3 {s : S} {a : Act} (h : a ∈ s.choices 3) : ∃ x y, a = .take x y := by
  unfold S.choices at h
  rw [if_neg (by decide), if_pos (by decide)] at h
  obtain ⟨r, _, rfl⟩ := List.mem_map.mp h
  exact ⟨_, _, rfl⟩
theorem choices6 {s : S} {a : Act} (h : a ∈ s.choices 6) : ∃ x, a = .rest x := by
  unfold S.choices at h
  rw [if_neg (by decide), if_neg (by decide), if_pos (by decide)] at h
  obtain ⟨r, _, rfl⟩ := List.mem_map.mp h
  exact ⟨_, rfl⟩
theorem choices9 {s : S} {a : Act} (h : a ∈ s.choices 9) : ∃ x y, a = .back x y := by
  unfold S.choices at h
  rw [if_neg (by decide), if_neg (by decide), if_neg (by decide), if_pos (by decide)] at h
  obtain ⟨r, _, rfl⟩ := List.mem_map.mp h
  exact ⟨_, _, rfl⟩
theorem choices11 {s : S} {a : Act} (h : a ∈ s.choices 11) : ∃ x, a = .home x := by
  unfold S.choices at h
  rw [if_neg (by decide), if_neg (by decide), if_neg (by decide), if_neg (by decide), if_pos (by decide)] at h
  obtain ⟨r, _, rfl⟩ := List.mem_map.mp h
  exact ⟨_, rfl⟩
theorem choices_end {s : S} (h3 : s.choices 3 = []) (h6 : s.choices 6 = []) (rd : ∀ i, s.rows i i = []) : s.Quiet := by
  unfold S.choices at h3 h6
  rw [if_neg (by decide), if_pos (by decide), List.map_eq_nil_iff, List.filter_eq_nil_iff] at h3
  rw [if_neg (by decide), if_neg (by decide), if_pos (by decide), List.map_eq_nil_iff] at h6
  refine ⟨fun i hi => ?_, fun i j hi hj => ?_⟩
  · cases e : s.busy i with
    | false => rfl
    | true =>
      have : i ∈ s.working := S.working_mem.mpr ⟨hi, e⟩
      rw [h6] at this
      cases this
  · by_cases e : i = j
    · subst e
      exact rd i
    · have := h3 (i, j) (mem_roads.mpr ⟨hi, hj, e⟩)
      cases er : s.rows i j with
      | nil => rfl
      | cons x l =>
        rw [er] at this
        exact absurd rfl this
theorem choices9_nil {s : S} : s.choices 9 = [] ↔ ∀ a b, Two s.n a b → ¬ 0 < s.slips a b := by
  unfold S.choices
  rw [if_neg (by decide), if_neg (by decide), if_neg (by decide), if_pos (by decide), List.map_eq_nil_iff, List.filter_eq_nil_iff]
  exact ⟨fun h a b t z => h (a, b) (mem_roads.mpr t) (decide_eq_true z), fun h r hr z => h r.1 r.2 (mem_roads.mp hr) (of_decide_eq_true z)⟩
theorem choices11_nil {s : S} : s.choices 11 = [] ↔ ∀ a, 0 < a → a < s.n → s.hw a = [] := by
  unfold S.choices
  rw [if_neg (by decide), if_neg (by decide), if_neg (by decide), if_neg (by decide), if_pos (by decide), List.map_eq_nil_iff, List.filter_eq_nil_iff]
  constructor
  · intro h a a0 ha
    have := h a (List.mem_map.mpr ⟨a - 1, List.mem_range.mpr (by omega), by omega⟩)
    cases e : s.hw a with
    | nil => rfl
    | cons x l =>
      rw [e] at this
      exact absurd rfl this
  · intro h a ha z
    obtain ⟨k, hk, e⟩ := List.mem_map.mp ha
    have hk := List.mem_range.mp hk
    rw [h a (by omega) (by omega)] at z
    cases z
/-- a drawn one of a list of acts -/
theorem pick_mem {l : List Act} {c p : Int} (h : l ≠ []) : ∃ a, l[(mix c p l.length).toNat]? = some a ∧ a ∈ l ∧ 0 ≤ mix c p l.length := by
  have hl : 0 < l.length := List.length_pos_iff.mpr h
  have b : 0 ≤ mix c p l.length ∧ mix c p l.length < l.length := ⟨Int.emod_nonneg _ (by omega), Int.emod_lt_of_pos _ (by omega)⟩
  have hi : (mix c p l.length).toNat < l.length := by omega
  exact ⟨_, List.getElem?_eq_getElem hi, List.getElem_mem hi, b.1⟩
theorem evr_drawn {l : List Act} {us : List V} {q : Addr} {c p : Int} (h1 : Ev ta σ H (.ref q)) (hq : H q = some (.lst us)) (hr : Tups actV H us l) {act : Act} (hp : 0 < p) (hl : l ≠ []) (he : l[(mix c p l.length).toNat]? = some act) (h2 : Ev tb σ H (.int c)) (h3 : Ev tc σ H (.int p)) (h4 : Ev te σ H (.ref q)) :
    EvR (tOp (rIxL K) ta (tCall (sp_l_mix K) [] E0 (tCons tb (tCons tc (tCons (tCB (rLenS K) (tCons te tNil)) tNil))))) σ H (TupR actV act) := fun H1 e Q k => by
  have ll : 0 < (us.length : Int) := by
    rw [hr.len]
    have := List.length_pos_iff.mpr hl
    omega
  obtain ⟨v, hv, hR⟩ := hr.get he
  have b : 0 ≤ mix c p (us.length : Nat) := (mix_bounds hp (by omega)).1
  have ev : Ev (tOp (rIxL K) ta (tCall (sp_l_mix K) [] E0 (tCons tb (tCons tc (tCons (tCB (rLenS K) (tCons te tNil)) tNil))))) σ H v :=
    ev_op h1 (ev_mix h2 h3 (ev_len h4 (sq_of hq)) hp ll) (rv_ixL (sq_of hq) (by
      have em : mix c p (us.length : Nat) = ((mix c p (us.length : Nat)).toNat : Nat) := by omega
      rw [em]
      refine atI_nat ?_
      rw [hr.len]
      exact hv))
  exact ev H1 e _ fun H2 e2 => k v H2 e2 (stb_tup.mono (e.trans e2) hR)
/-- do it, the value dropped -/
theorem s_do {q : Addr} {act : Act} (h : HallAt K Z H A s) (g : Good s) (hc : s.Can act) (h1 : Ev ta σ H (.ref A.p)) (h2 : EvR te σ H (TupR actV act)) (k : ∀ H2, HallAt K Z H2 A (s.step act) → Kp A H H2 → D.nx σ H2) :
    tDrop (tCall (sp_l_do K) [] E0 (tCons ta (tCons te tNil))) D σ H := h1 H (Ex.refl H) _ fun H1 e1 => h2 H1 e1 _ fun v H2 e2 ⟨q, ev, hq⟩ => by
  subst ev
  exact ⟨A, s, Z, q, act, rfl, h.mono (e1.trans e2), g, hc, hq, fun H3 h3 k3 => k H3 h3 ((Kp.ex (e1.trans e2)).trans k3)⟩
end
end QH

/-! The end of a play: takes and rests until all is quiet. -/
namespace QH
open PySem PySem.Spec PyProof.Rows L2 Evl
/-- takes and rests until all is quiet: Inv by the turn -/
def sp_l_end (K : PySem.W.Frag) : Sp := fun vs H Q _ => ∃ (A : Ad) (s : S) (Z : Addr → Prop) (c : Int) (Inv : Nat → S → Prop), vs = [.ref A.p, .int s.n, .int c] ∧ HallAt K Z H A s ∧ Inv 0 s ∧ s.load ≤ 400 ∧
  (∀ i s, i ≤ 400 → Inv i s → Good s) ∧ (∀ i s a, i < 400 → Inv i s → s.Can a → (∀ x y, a ≠ .send x y) → Inv (i + 1) (s.step a)) ∧ (∀ i s, i < 400 → Inv i s → Inv (i + 1) s) ∧ (∀ i s, Inv i s → ∀ x, s.rows x x = []) ∧
  ∀ H' s', HallAt K Z H' A s' → Kp A H H' → s'.n = s.n → Inv 400 s' → s'.Quiet → Q (.bl true) H'
abbrev N_l_end : List Str := ["_law_hall", "_law_many_here", "_law_cell_here", "_law_turn", "_law_some"]
def t_l_end (K : PySem.W.Frag) : TS :=
  (tSeq (tFor (iRng1 (tCons (tC (.int 400)) tNil)) (gName 3) (tSeq (tAsg (tOp rCat (tCall (sp_l_choices K) [] E0 (tCons (tVar 0) (tCons (tVar 1) (tCons (tC (.int 3)) tNil)))) (tCall (sp_l_choices K) [] E0 (tCons (tVar 0) (tCons (tVar 1) (tCons (tC (.int 6)) tNil))))) (gName 4)) (tIfS (tTr K (tVar 4)) (tDrop (tCall (sp_l_do K) [] E0 (tCons (tVar 0) (tCons (tOp (rIxL K) (tVar 4) (tCall (sp_l_mix K) [] E0 (tCons (tOp rAddI (tVar 2) (tOp rMulI (tC (.int 31)) (tVar 3))) (tCons (tC (.int 9931)) (tCons (tCB (rLenS K) (tCons (tVar 4) tNil)) tNil))))) tNil)))) tNext))) (tRet (tMeth (He.ga K "Hall") "is_quiet" (sp_Hall_is_quiet K) [] E0 (tVar 0) tNil)))
section
variable {K : PySem.W.Frag} {Z : Addr → Prop} {σ : L2.St} {H H' : Hp} {ta tb tc te tv : TE} {t u : TT} {x y z v : V} {a C dx p c : Addr} {A : Ad} {s : S} {D : Ends} {j : Nat} {w : Wt} {P : V → Hp → Prop}
theorem evr_cat {l m : List Act} (h1 : EvR ta σ H (CompR (TupR actV) H l)) (h2 : ∀ H1, Ex H H1 → EvR tb σ H1 (CompR (TupR actV) H1 m)) (hl : l.length + m.length ≤ 5000) : EvR (tOp rCat ta tb) σ H (CompR (TupR actV) H (l ++ m)) := fun H1 e Q k =>
  h1 H1 e _ fun v H2 e2 ⟨q, us, ev, nq, hq, hr⟩ => h2 H2 (e.trans e2) H2 (Ex.refl H2) _ fun v2 H3 e3 ⟨q2, us2, ev2, nq2, hq2, hr2⟩ => by
    subst ev ev2
    have l1 := hr.len
    have l2 := hr2.len
    refine ⟨q, q2, us, us2, rfl, rfl, e3 _ _ hq, hq2, Nat.le_trans (show _ ≤ 5000 by omega) (by decide), fun p hp => ?_⟩
    refine k _ _ ((e2.trans e3).trans (Ex.new hp)) ⟨p, us ++ us2, rfl, fresh_back ((e.trans e2).trans e3) hp, upd_same, ?_⟩
    exact ((hr.mono stb_tup e3).app hr2).imp fun _ _ r => stb_tup.mono (Ex.new hp) r
theorem choices_len {s : S} {k : Int} (h6 : s.n ≤ 6) : (s.choices k).length ≤ 1000 := by
  have hr := roads_len h6
  have hf : ∀ p : Nat × Nat → Bool, ((roads s.n).filter p).length ≤ 1000 := fun p => Nat.le_trans (List.length_filter_le _ _) hr
  unfold S.choices
  split
  · rw [List.length_map]
    exact hf _
  · split
    · rw [List.length_map]
      exact hf _
    · split
      · rw [List.length_map]
        have := List.length_filter_le (fun h => s.busy h) (List.range s.n)
        rw [List.length_range] at this
        show (List.filter _ _).length ≤ 1000
        omega
      · split
        · rw [List.length_map]
          exact hf _
        · split
          · rw [List.length_map]
            refine Nat.le_trans (List.length_filter_le _ _) ?_
            rw [List.length_map, List.length_range]
            omega
          · split <;> simp
theorem et_list {q : Addr} {us : List V} {l : List Act} (h : Ev ta σ H (.ref q)) (hq : H q = some (.lst us)) (hr : Tups actV H us l) : EvT (tTr K ta) σ H (!l.isEmpty) := fun H1 e Q k =>
  h H1 e _ fun H2 e2 => ⟨!l.isEmpty, by
    have hq2 := (e.trans e2) _ _ hq
    exact Or.inl ⟨us, sq_of hq2, by rw [isEmpty_len hr.len]⟩, k H2 e2⟩
theorem pur_l_end (T : TxtK K) : ∀ vs H Q E, sp_l_end K vs H Q E → t_l_end K { nx := fun _ H' => Q .non H', rt := Q } (start N_l_end vs) H := by
  rintro vs H Q E ⟨A, s, Z, c, Inv, rfl, h, i0, l0, ig, ist, im, ird, k⟩
  show t_l_end K _ [some (.ref A.p), some (.int s.n), some (.int c), none, none] H
  unfold t_l_end
  have en : ((400 : Int)).toNat = 400 := by decide
  refine q_forR1 (n := 400) (ea_cons ev_c ea_nil) ⟨by decide, by decide⟩ (fun i σ' H' => ∃ s' v3 v4, σ' = [some (.ref A.p), some (.int s.n), some (.int c), v3, v4] ∧ HallAt K Z H' A s' ∧ Kp A H H' ∧ s'.n = s.n ∧ Inv i s' ∧ s'.load ≤ 400 - (i : Int))
    (fun H1 e1 => ⟨s, none, none, rfl, h.mono e1, Kp.ex e1, rfl, i0, by simpa using l0⟩) ?_ ?_
  · rintro i σ' H' hi ⟨s', v3, v4, rfl, h', k', n', inv, ld⟩
    have hi : i < 400 := by omega
    have g := ig i s' (by omega) inv
    show (tSeq _ _) _ [some (.ref A.p), some (.int s.n), some (.int c), some (.int i), v4] H'
    have l3 := choices_len (s := s') (k := 3) g.n6
    have l6 := choices_len (s := s') (k := 6) g.n6
    refine s_asgR (evr_cat (evr_choices h' g (ev_var rfl) (ev_is (ev_var rfl) (by rw [n'])) ev_c) (fun H1 e1 => evr_choices (h'.mono e1) g (ev_var rfl) (ev_is (ev_var rfl) (by rw [n'])) ev_c) (by omega)) ?_
    rintro _ H1 e1 ⟨q, us, rfl, nq, hq, hr⟩
    have h1 := h'.mono e1
    refine s_if (et_list (ev_var rfl) hq hr) (fun b H2 e2 => ?_) (fun b H2 e2 => ?_)
    · have ne : s'.choices 3 ++ s'.choices 6 ≠ [] := fun z => by
        rw [z] at b
        cases b
      obtain ⟨act, ha, hm, _⟩ := pick_mem (c := c + 31 * (i : Int)) (p := 9931) ne
      have cn : s'.Can act := by
        rcases List.mem_append.mp hm with z | z
        · exact can_choices z
        · exact can_choices z
      have hl : (s'.step act).load < s'.load ∧ ∀ x y, act ≠ .send x y := by
        rcases List.mem_append.mp hm with z | z
        · obtain ⟨x, y, rfl⟩ := choices3 z
          exact ⟨load_take cn, fun _ _ e => by cases e⟩
        · obtain ⟨x, rfl⟩ := choices6 z
          exact ⟨load_rest cn, fun _ _ e => by cases e⟩
      have h2 := h1.mono e2
      have hq2 := e2 _ _ hq
      refine s_do (q := q) h2 g cn (ev_var rfl) (evr_drawn (q := q) (c := c + 31 * (i : Int)) (p := 9931) (ev_var rfl) hq2 (hr.mono stb_tup e2) (by decide) ne ha (ev_op (ev_var rfl) (ev_op ev_c (ev_var rfl) (rv_mul (.inl ⟨by decide, by decide⟩))) rv_add) ev_c (ev_var rfl)) fun H3 h3 k3 => ?_
      exact ⟨_, _, _, rfl, h3, k'.trans ((Kp.ex (e1.trans e2)).trans k3), step_n.trans n', ist i s' act hi inv cn hl.2, by have := hl.1; omega⟩
    · have e0 : s'.choices 3 ++ s'.choices 6 = [] := by
        cases e : s'.choices 3 ++ s'.choices 6 with
        | nil => rfl
        | cons x l =>
          rw [e] at b
          cases b
      obtain ⟨e3, e6⟩ := List.append_eq_nil_iff.mp e0
      have qu := choices_end e3 e6 (ird i s' inv)
      have := quiet_load qu
      exact ⟨s', _, _, rfl, h1.mono e2, k'.trans (Kp.ex (e1.trans e2)), n', im i s' hi inv, by omega⟩
  · rintro σ' H' ⟨s', v3, v4, rfl, h', k', n', inv, ld⟩
    rw [en] at inv ld
    have qu := load_quiet (s := s') (by omega)
    have g := ig 400 s' (by omega) inv
    refine s_ret (ev_is (ev_is_quiet h' g.n6 (ev_var rfl)) (w := .bl true) (by rw [quiet_eq.mpr qu])) fun H1 e1 => ?_
    exact k H1 s' (h'.mono e1) (k'.trans (Kp.ex e1)) n' inv qu
end
end QH

/-! Acts drawn and done, exactly (k09, k10). -/
namespace QH
open PySem PySem.Spec PyProof.Rows L2 Evl
def S.turn (s : S) (c : Int) : S := match s.pick c with
  | none => s
  | some a => s.step a
def S.play (s : S) (ns : List Int) : S := ns.foldl S.turn s
theorem play_succ {s : S} {ns : List Int} {i : Nat} {c : Int} (h : ns[i]? = some c) : s.play (ns.take (i + 1)) = (s.play (ns.take i)).turn c := by
  unfold S.play
  rw [List.take_add_one, h, List.foldl_append]
  rfl
theorem turn_n {s : S} {c : Int} : (s.turn c).n = s.n := by
  unfold S.turn
  split
  · rfl
  · exact step_n
theorem play_n {ns : List Int} : ∀ {s : S}, (s.play ns).n = s.n := by
  induction ns with
  | nil => exact fun {s} => rfl
  | cons c ns ih => exact fun {s} => (ih (s := s.turn c)).trans turn_n
def sp_l_play (K : PySem.W.Frag) : Sp := fun vs H Q _ => ∃ (A : Ad) (s : S) (Z : Addr → Prop) (q : Addr) (ns : List Int) (Inv : Nat → S → Prop), vs = [.ref A.p, .int s.n, .ref q] ∧ HallAt K Z H A s ∧ H q = some (.lst (ns.map V.int)) ∧ A.R q = 0 ∧ Inv 0 s ∧
  (∀ i s, i < ns.length → Inv i s → Good s) ∧ (∀ i s, i < ns.length → Inv i s → Inv (i + 1) s) ∧ (∀ i s a, i < ns.length → Inv i s → s.Can a → Inv (i + 1) (s.step a)) ∧
  ∀ H', HallAt K Z H' A (s.play ns) → Kp A H H' → Inv ns.length (s.play ns) → Q .non H'
abbrev N_l_play : List Str := ["_law_hall", "_law_many_here", "_law_cells", "_law_cell_here", "_law_act_here"]
def t_l_play (K : PySem.W.Frag) : TS :=
  (tSeq (tFor (iList K (tVar 2)) (gName 3) (tSeq (tAsg (tCall (sp_l_act K) [] E0 (tCons (tVar 0) (tCons (tVar 1) (tCons (tVar 3) tNil)))) (gName 4)) (tIfS (tB (tNotN (tVar 4))) (tDrop (tCall (sp_l_do K) [] E0 (tCons (tVar 0) (tCons (tVar 4) tNil)))) tNext))) (tRet (tC .non)))
section
variable {K : PySem.W.Frag} {Z : Addr → Prop} {σ : L2.St} {H H' : Hp} {ta tb tc te tv : TE} {t u : TT} {x y z v : V} {a C dx p c : Addr} {A : Ad} {s : S} {D : Ends} {j : Nat} {w : Wt} {P : V → Hp → Prop}
theorem ints_get {ns : List Int} {i : Nat} {x : V} (hx : (ns.map V.int)[i]? = some x) : ∃ c, ns[i]? = some c ∧ x = V.int c := by
  rw [List.getElem?_map] at hx
  cases e : ns[i]? with
  | none =>
    rw [e] at hx
    cases hx
  | some c =>
    rw [e] at hx
    exact ⟨c, rfl, (Option.some.inj hx).symm⟩
theorem pur_l_play (T : TxtK K) : ∀ vs H Q E, sp_l_play K vs H Q E → t_l_play K { nx := fun _ H' => Q .non H', rt := Q } (start N_l_play vs) H := by
  rintro vs H Q E ⟨A, s, Z, q, ns, Inv, rfl, h, hq, rq, i0, ig, im, ist, k⟩
  show t_l_play K _ [some (.ref A.p), some (.int s.n), some (.ref q), none, none] H
  unfold t_l_play
  refine q_forLn (a := q) (xs := ns.map V.int) (ev_var rfl) (sq_of hq) (fun i σ' H' => ∃ v3 v4, σ' = [some (.ref A.p), some (.int s.n), some (.ref q), v3, v4] ∧ HallAt K Z H' A (s.play (ns.take i)) ∧ Kp A H H' ∧ Inv i (s.play (ns.take i)))
    (fun H1 e1 => ⟨none, none, rfl, h.mono e1, Kp.ex e1, i0⟩) (fun i σ' H' _ ⟨v3, v4, _, _, k', _⟩ => sq_of (k' _ _ hq rq)) ?_ ?_
  · rintro i x σ' H' hx ⟨v3, v4, rfl, h', k', inv⟩
    obtain ⟨c, hc, rfl⟩ := ints_get hx
    have hi : i < ns.length := (List.getElem?_eq_some_iff.mp hc).1
    have n' : (s.play (ns.take i)).n = s.n := play_n
    rw [play_succ hc]
    generalize s.play (ns.take i) = s' at *
    have g := ig i s' hi inv
    show (tSeq _ _) _ [some (.ref A.p), some (.int s.n), some (.ref q), some (.int c), v4] H'
    refine s_asgR (evr_act h' g (ev_var rfl) (ev_is (ev_var rfl) (by rw [n'])) (ev_var rfl)) fun v H1 e1 hv => ?_
    have h1 := h'.mono e1
    unfold S.turn
    cases ep : s'.pick c with
    | none =>
      rw [ep] at hv
      have hv : v = .non := hv
      subst hv
      refine s_if (b := false) (et_B (ev_is (ev_notN (x := .non) (ev_var rfl)) (by simp))) (fun b => by cases b) (fun _ H2 e2 => ?_)
      exact ⟨_, _, rfl, h1.mono e2, k'.trans (Kp.ex (e1.trans e2)), im i s' hi inv⟩
    | some b =>
      rw [ep] at hv
      obtain ⟨r, rfl, hr⟩ := hv
      have cb := can_pick ep
      refine s_if (b := true) (et_B (ev_is (ev_notN (x := .ref r) (ev_var rfl)) (by simp))) (fun _ H2 e2 => ?_) (fun b => by cases b)
      refine s_callX (ea_cons (ev_var rfl) (ea_cons (ev_var rfl) ea_nil)) fun H3 e3 => ?_
      exact ⟨A, s', _, r, b, rfl, h1.mono (e2.trans e3), g, cb, (e2.trans e3) _ _ hr, fun H4 h4 k4 => ⟨_, _, rfl, h4, k'.trans ((Kp.ex (e1.trans (e2.trans e3))).trans k4), ist i s' b hi inv cb⟩⟩
  · rintro σ' H' ⟨v3, v4, rfl, h', k', inv⟩
    rw [List.length_map] at h' inv
    rw [List.take_length] at h' inv
    exact s_ret ev_c fun H1 e1 => k H1 (h'.mono e1) (k'.trans (Kp.ex e1)) inv
/-! ### more on what evaluates -/
theorem ev_sumC {l : List Int} (h : EvR te σ H (CompR (ValR V.int) H l)) : Ev (tCB (rSum K) (tCons te tNil)) σ H (.int l.sum) := fun H1 e Q k => h H1 e _ fun v H2 e2 ⟨q, us, ev, nq, hq, hr⟩ => by
  subst ev
  refine ⟨q, l, rfl, ?_, k H2 e2⟩
  rw [← rels_val hr]
  exact sq_of hq
theorem et_listR {l : List Act} (h : EvR te σ H (CompR (TupR actV) H l)) : EvT (tTr K te) σ H (!l.isEmpty) := fun H1 e Q k =>
  h H1 e _ fun v H2 e2 ⟨q, us, ev, nq, hq, hr⟩ => by
    subst ev
    exact ⟨!l.isEmpty, Or.inl ⟨us, sq_of hq, by rw [isEmpty_len hr.len]⟩, k H2 e2⟩
theorem ev_notR {α : Type} {R : α → V → Hp → Prop} {l : List α} (h : EvR te σ H (CompR R H l)) : Ev (tNotT K te) σ H (.bl l.isEmpty) := fun H1 e Q k =>
  h H1 e _ fun v H2 e2 ⟨q, us, ev, nq, hq, hr⟩ => by
    subst ev
    refine ⟨!l.isEmpty, Or.inl ⟨us, sq_of hq, by rw [isEmpty_len hr.len]⟩, ?_⟩
    rw [Bool.not_not]
    exact k H2 e2
theorem ev_isB {a b : Bool} (h1 : Ev ta σ H (.bl a)) (h2 : Ev tb σ H (.bl b)) : Ev (tOp rIsB ta tb) σ H (.bl (decide (a = b))) := ev_op h1 h2 fun H1 _ Q q => ⟨a, b, rfl, rfl, q H1 (Ex.refl H1)⟩
theorem ev_notB {a b : Bool} (h1 : Ev ta σ H (.bl a)) (h2 : Ev tb σ H (.bl b)) : Ev (tOp rNotB ta tb) σ H (.bl (!decide (a = b))) := ev_op h1 h2 fun H1 _ Q q => ⟨a, b, rfl, rfl, q H1 (Ex.refl H1)⟩
theorem ev_w10R (h : EvR te σ H fun v H2 => WV Z H2 v w) : Ev (tOp (rEqD K) te (tTup (tCons (tC (.int 1)) (tCons (tC (.int 0)) tNil)))) σ H (.bl (decide (w = (1, 0)))) := fun H1 e Q k =>
  h H1 e _ fun v H2 e2 ⟨q, ev, _, hq⟩ => by
    subst ev
    refine eu_10 H2 (Ex.refl H2) _ fun r H3 n e3 hr => ⟨wD w, wD (1, 0), dp_w (e3 _ _ hq), dp_w hr, wD_shaped, wD_shaped, ?_⟩
    rw [wD_eq]
    exact k H3 (e2.trans e3)
theorem u_dcall3 {sp : Sp} {t1 t2 t3 : TE} {v1 v2 : V} (h1 : Ev t1 σ H v1) (h2 : Ev t2 σ H v2) (h3 : EvR t3 σ H P) (k : ∀ v H1, Ex H H1 → P v H1 → sp [v1, v2, v] H1 (fun _ H3 => D.nx σ H3) E0) : tDrop (tCall sp [] E0 (tCons t1 (tCons t2 (tCons t3 tNil)))) D σ H :=
  h1 H (Ex.refl H) _ fun H1 e1 => h2 H1 e1 _ fun H2 e2 => h3 H2 (e1.trans e2) _ fun v H3 e3 p => k v H3 (e1.trans (e2.trans e3)) p
theorem evr_L {xs : List V} (h : EvL te σ H xs) : EvR te σ H (fun v H2 => ∃ q, v = .ref q ∧ H q = none ∧ H2 q = some (.lst xs)) := fun H1 e Q k => h H1 e Q fun p H2 np e2 hp => k _ H2 e2 ⟨p, rfl, fresh_back e np, hp⟩
theorem s_ifCallT {sp : Sp} {tg : TA} {vs : List V} {tu rest : TS} {G : Hp → Prop} (hv : EvA tg σ H vs) (k : ∀ H1, Ex H H1 → ∀ Q : VK, (∀ H2, G H2 → Q (.bl true) H2) → sp (vs ++ []) H1 Q E0) (c : ∀ H2, G H2 → rest D σ H2) : tSeq (tIfS (tNot (tB (tCall sp [] E0 tg))) tu tNext) rest D σ H :=
  hv H (Ex.refl H) _ fun H1 e1 => k H1 e1 _ fun H2 g => ⟨true, rfl, c H2 g⟩
theorem s_ifCallN {sp : Sp} {tg : TA} {vs : List V} {tu rest : TS} {G : Hp → Prop} (hv : EvA tg σ H vs) (k : ∀ H1, Ex H H1 → ∀ Q : VK, (∀ H2, G H2 → Q (.bl true) H2) → sp (vs ++ []) H1 Q E0) (c : ∀ H2, G H2 → rest D σ H2) : tSeq (tIfS (tTest (tOp rNotB (tCall sp [] E0 tg) (tC (.bl true)))) tu tNext) rest D σ H :=
  hv H (Ex.refl H) _ fun H1 e1 => k H1 e1 _ fun H2 g => ⟨true, true, rfl, rfl, false, rfl, c H2 g⟩
theorem s_pass (h : HallAt K Z H A s) (g : Good s) (hc : s.Can .pass) (ho : Ev ta σ H (.ref A.p)) (k : ∀ H2, HallAt K Z H2 A s.passed → Kp A H H2 → D.nx σ H2) : tDrop (tMeth (He.ga K "Hall") "pass_on" (sp_Hall_pass_on K) [] E0 ta tNil) D σ H :=
  s_meth ho h.p (by kernel_rfl) ea_nil fun H1 e1 => ⟨A, s, Z, rfl, h.mono e1, ⟨g, hc⟩, fun H2 h2 k2 => k H2 h2 ((Kp.ex e1).trans k2)⟩
theorem WI.upto {i : Nat} {s : S} (h : WI i s) (hi : i ≤ 60) : WI 60 s := ⟨⟨fun j hj => ⟨Nat.le_trans (h.pw.h j hj).1 hi, (h.pw.h j hj).2⟩, fun j k hj hk w hw => ⟨Nat.le_trans (h.pw.r j k hj hk w hw).1 hi, (h.pw.r j k hj hk w hw).2⟩, fun j hj w hw => ⟨Nat.le_trans (h.pw.w j hj w hw).1 hi, (h.pw.w j hj w hw).2⟩⟩, h.tot, h.hp, h.rp, h.wp⟩
theorem SI.upto {i k : Nat} {s : S} (h : SI i s) (hi : i ≤ k) : SI k s := ⟨h.n2, h.n6, h.pl, h.ov, fun i j h1 h2 => Nat.le_trans (h.rl i j h1 h2) hi, fun i h1 => Nat.le_trans (h.wl i h1) hi, h.rd⟩
theorem SI.pass {t : Nat} {s : S} (h : SI t s) : SI t s.passed := by
  unfold S.passed
  split
  · exact ⟨h.n2, h.n6, (by show s.n - 1 < s.n; have := h.n2; omega), h.ov, h.rl, h.wl, h.rd⟩
  · exact ⟨h.n2, h.n6, (by show s.place - 1 < s.n; have := h.pl; omega), h.ov, h.rl, h.wl, h.rd⟩
theorem SI.back {t : Nat} {s : S} {a b : Nat} (h : SI t s) : SI t (s.back a b) := by
  unfold S.back
  exact ⟨by rw [settle_n]; exact h.n2, by rw [settle_n]; exact h.n6, by rw [settle_n, settle_place]; exact h.pl, fun x hx o e => by rw [settle_n] at hx ⊢; exact h.ov x hx o (settle_over (s := s.cameBack a b) x o e), fun i j hi hj => by rw [settle_n] at hi hj; rw [settle_rows]; exact h.rl i j hi hj,
    fun i hi => by rw [settle_n] at hi; rw [settle_hw]; exact h.wl i hi, fun i => by rw [settle_rows]; exact h.rd i⟩
theorem SI.home {t : Nat} {s : S} {a : Nat} (h : SI t s) : SI t (s.cameHome a) :=
  ⟨h.n2, h.n6, h.pl, h.ov, h.rl, fun i hi => by
    show (up s.hw a (s.hw a).tail i).length ≤ t
    by_cases e : i = a
    · subst e
      rw [up_same, List.length_tail]
      have := h.wl i hi
      omega
    · rw [up_ne e]
      exact h.wl i hi, h.rd⟩
end
end QH

/-! All that a hall shows (k04, k10). -/
namespace QH
open PySem PySem.Spec PyProof.Rows L2 Evl
def ovD : Option Nat → PyData
  | none => .none
  | some i => .int i
def colD (b : Bool) : PyData := .str (if b then "black" else "white")
def handD (s : S) (h : Nat) : List PyData := [.tuple [.int (s.due h), ovD (s.over h), wD (s.held h), .tuple ((s.hw h).map wD)], .tuple [.int (s.cnt h), colD (s.blk h)]]
def headD0 (s : S) : List PyData := [.tuple (s.working.map fun (i : Nat) => .int (i : Int)), .bool s.quiet, .tuple [.int s.place, .int s.sum, colD s.tb], .tuple (s.told.map PyData.bool)]
def headD1 (s : S) : List PyData := headD0 s ++ [.list ((roads s.n).map fun r => .int ((s.rows r.1 r.2).length : Nat))]
def headD2 (s : S) : List PyData := headD1 s ++ [.list ((roads s.n).map fun r => .int (s.slips r.1 r.2))]
def headD3 (s : S) : List PyData := headD2 s ++ [.list ((roads s.n).map fun r => .tuple ((s.rows r.1 r.2).map wD))]
def S.shownD (s : S) : PyData := .list (headD3 s ++ (List.range s.n).flatMap (handD s))
def sp_l_shown (K : PySem.W.Frag) : Sp := fun vs H Q _ => ∃ (A : Ad) (s : S) (Z : Addr → Prop), vs = [.ref A.p, .int s.n] ∧ HallAt K Z H A s ∧ 0 < s.n ∧ s.n ≤ 6 ∧ ∀ H' q, Ex H H' → Dp K H' (.ref q) s.shownD → Q (.ref q) H'
abbrev N_l_shown : List Str := ["_law_hall", "_law_many_here", "_law_roads_here", "_law_found", "_law_hand", "_law_one", "_law_other"]
def t_l_shown (K : PySem.W.Frag) : TS :=
  (tSeq (tAsg (tCall (sp_l_roads K) [] E0 (tCons (tVar 1) tNil)) (gName 2)) (tSeq (tAsg (tLst (tCons (tMeth (He.ga K "Hall") "working" (sp_Hall_working K) [] E0 (tVar 0) tNil) (tCons (tMeth (He.ga K "Hall") "is_quiet" (sp_Hall_is_quiet K) [] E0 (tVar 0) tNil) (tCons (tMeth (He.ga K "Hall") "token" (sp_Hall_token K) [] E0 (tVar 0) tNil) (tCons (tMeth (He.ga K "Hall") "told" (sp_Hall_told K) [] E0 (tVar 0) tNil) tNil))))) (gName 3)) (tSeq (tDrop (tBM K "list" rAppend (tVar 3) (tCons (tLc (iList K (tVar 2)) (gTup K 2 (gCons (gName 5) (gCons (gName 6) gNil))) tYes (tMeth (He.ga K "Hall") "works" (sp_Hall_works K) [] E0 (tVar 0) (tCons (tVar 5) (tCons (tVar 6) tNil))) [5, 6]) tNil))) (tSeq (tDrop (tBM K "list" rAppend (tVar 3) (tCons (tLc (iList K (tVar 2)) (gTup K 2 (gCons (gName 5) (gCons (gName 6) gNil))) tYes (tMeth (He.ga K "Hall") "receipts" (sp_Hall_receipts K) [] E0 (tVar 0) (tCons (tVar 5) (tCons (tVar 6) tNil))) [5, 6]) tNil))) (tSeq (tDrop (tBM K "list" rAppend (tVar 3) (tCons (tLc (iList K (tVar 2)) (gTup K 2 (gCons (gName 5) (gCons (gName 6) gNil))) tYes (tMeth (He.ga K "Hall") "weights_on" (sp_Hall_weights_on K) [] E0 (tVar 0) (tCons (tVar 5) (tCons (tVar 6) tNil))) [5, 6]) tNil))) (tSeq (tFor (iRng1 (tCons (tVar 1) tNil)) (gName 4) (tSeq (tDrop (tBM K "list" rAppend (tVar 3) (tCons (tTup (tCons (tMeth (He.ga K "Hall") "open_of" (sp_Hall_open_of K) [] E0 (tVar 0) (tCons (tVar 4) tNil)) (tCons (tMeth (He.ga K "Hall") "above" (sp_Hall_above K) [] E0 (tVar 0) (tCons (tVar 4) tNil)) (tCons (tMeth (He.ga K "Hall") "weight_of" (sp_Hall_weight_of K) [] E0 (tVar 0) (tCons (tVar 4) tNil)) (tCons (tMeth (He.ga K "Hall") "weights_home" (sp_Hall_weights_home K) [] E0 (tVar 0) (tCons (tVar 4) tNil)) tNil))))) tNil))) (tDrop (tBM K "list" rAppend (tVar 3) (tCons (tTup (tCons (tMeth (He.ga K "Hall") "count_of" (sp_Hall_count_of K) [] E0 (tVar 0) (tCons (tVar 4) tNil)) (tCons (tMeth (He.ga K "Hall") "colour_of" (sp_Hall_colour_of K) [] E0 (tVar 0) (tCons (tVar 4) tNil)) tNil))) tNil))))) (tRet (tVar 3))))))))
section
variable {K : PySem.W.Frag} {Z : Addr → Prop} {σ : L2.St} {H H' : Hp} {ta tb tc te tv : TE} {t u : TT} {x y z v : V} {a C dx p c : Addr} {A : Ad} {s : S} {D : Ends} {j : Nat} {w : Wt} {P : V → Hp → Prop}
/-- the heap without one address -/
def er (d : Addr) (H : Hp) : Hp := fun a => if a = d then none else H a
theorem er_ne {d a : Addr} (h : a ≠ d) : er d H a = H a := if_neg h
theorem er_ex {d : Addr} : Ex (er d H) H := fun a o h => by
  by_cases e : a = d
  · rw [er, if_pos e] at h
    cases h
  · rw [er_ne e] at h
    exact h
theorem er_mono {d : Addr} (e : Ex H H') : Ex (er d H) (er d H') := fun a o h => by
  by_cases ea : a = d
  · rw [er, if_pos ea] at h
    cases h
  · rw [er_ne ea] at h ⊢
    exact e a o h
theorem er_upd {d : Addr} {o : HO} : er d (upd H d o) = er d H := by
  funext a
  by_cases ea : a = d
  · rw [er, er, if_pos ea, if_pos ea]
  · rw [er_ne ea, er_ne ea, upd_ne ea]
mutual
theorem dp_mono (e : Ex H H') : ∀ {v : V} {d : PyData}, Dp K H v d → Dp K H' v d
  | _, _, .non => .non
  | _, _, .bl b => .bl b
  | _, _, .int i => .int i
  | _, _, .str x => .str x
  | _, _, .lst h a => .lst (ex_l e h) (dpAll_mono e a)
  | _, _, .tup h a => .tup (ex_t e h) (dpAll_mono e a)
theorem dpAll_mono (e : Ex H H') : ∀ {vs : List V} {ds : List PyData}, DpAll K H vs ds → DpAll K H' vs ds
  | _, _, .nil => .nil
  | _, _, .cons h a => .cons (dp_mono e h) (dpAll_mono e a)
end
theorem dpAll_snoc : ∀ {vs : List V} {ds : List PyData} {v : V} {d : PyData}, DpAll K H vs ds → Dp K H v d → DpAll K H (vs ++ [v]) (ds ++ [d])
  | _, _, _, _, .nil, h => .cons h .nil
  | _, _, _, _, .cons a r, h => .cons a (dpAll_snoc r h)
theorem dpAll_bls {l : List Bool} : DpAll K H (l.map V.bl) (l.map PyData.bool) := by
  induction l with
  | nil => exact .nil
  | cons a l ih => exact .cons (.bl _) ih
theorem dpAll_is {l : List Int} : DpAll K H (l.map V.int) (l.map PyData.int) := by
  induction l with
  | nil => exact .nil
  | cons a l ih => exact .cons (.int _) ih
theorem dpAll_rels {α : Type} {f : α → PyData} : ∀ {vs : List V} {xs : List α}, Rels (fun x v H => Dp K H v (f x)) H vs xs → DpAll K H vs (xs.map f)
  | [], [], _ => .nil
  | _ :: _, _ :: _, h => .cons h.1 (dpAll_rels h.2)
  | [], _ :: _, h => h.elim
  | _ :: _, [], h => h.elim
theorem dpAll_wls {d : Addr} {us : List V} (hd : H d = some (.lst us)) : ∀ {vs : List V} {ws : List Wt}, WLs Z H vs ws → DpAll K (er d H) vs (ws.map wD)
  | [], [], _ => .nil
  | _ :: _, _ :: _, h => by
    obtain ⟨⟨q, e, _, hq⟩, r⟩ := h
    subst e
    have ne : q ≠ d := fun z => by
      rw [z, hd] at hq
      cases hq
    exact .cons (dp_w (by rw [er_ne ne]; exact hq)) (dpAll_wls hd r)
  | [], _ :: _, h => h.elim
  | _ :: _, [], h => h.elim
theorem dp_ov {o : Option Nat} : Dp K H (ovV o) (ovD o) := by
  cases o with
  | none => exact .non
  | some i => exact .int _
theorem dp_col {b : Bool} : Dp K H (colS b) (colD b) := .str _
/-- what stands of the list that is built -/
structure Fd (K : PySem.W.Frag) (Hb : Hp) (d : Addr) (ds : List PyData) (H : Hp) : Prop where
  nb : Hb d = none
  ex : Ex Hb H
  at_ : ∃ us, H d = some (.lst us) ∧ us.length = ds.length ∧ DpAll K (er d H) us ds
theorem Fd.mono {Hb : Hp} {d : Addr} {ds : List PyData} (h : Fd K Hb d ds H) (e : Ex H H') : Fd K Hb d ds H' := ⟨h.nb, h.ex.trans e, let ⟨us, h1, h2, h3⟩ := h.at_; ⟨us, e _ _ h1, h2, dpAll_mono (er_mono e) h3⟩⟩
/-- found.append(e) -/
theorem s_appF {Hb : Hp} {d : Addr} {ds : List PyData} {dd : PyData} (h : Fd K Hb d ds H) (hl : ds.length ≤ 1000) (ha : Ev ta σ H (.ref d)) (he : EvR te σ H fun v H2 => ∀ us, H2 d = some (.lst us) → Dp K (er d H2) v dd) (k : ∀ H2, Fd K Hb d (ds ++ [dd]) H2 → D.nx σ H2) :
    tDrop (tBM K "list" rAppend ta (tCons te tNil)) D σ H := by
  refine u_drop (u_bm (u_ev ha fun H1 e1 => ⟨Or.inl ⟨rfl, _, sq_of ((h.mono e1).at_.choose_spec.1)⟩, u_cons1 (he H1 e1 _ fun v H2 e2 hv => ?_)⟩))
  have h2 := h.mono (e1.trans e2)
  obtain ⟨us, a1, a2, a3⟩ := h2.at_
  refine ⟨d, us, v, rfl, rfl, a1, sz_lt (by omega), k _ ⟨h2.nb, h2.ex.mut h2.nb, us ++ [v], upd_same, by rw [List.length_append, List.length_append, a2]; rfl, ?_⟩⟩
  rw [er_upd]
  exact dpAll_snoc a3 (hv us a1)
theorem q_appF {Hb : Hp} {d : Addr} {ds : List PyData} {dd : PyData} {rest : TS} (h : Fd K Hb d ds H) (hl : ds.length ≤ 1000) (ha : Ev ta σ H (.ref d)) (he : EvR te σ H fun v H2 => ∀ us, H2 d = some (.lst us) → Dp K (er d H2) v dd) (k : ∀ H2, Fd K Hb d (ds ++ [dd]) H2 → rest D σ H2) :
    tSeq (tDrop (tBM K "list" rAppend ta (tCons te tNil))) rest D σ H := s_appF (D := { D with nx := rest D }) h hl ha he k
theorem dp_of_comp {α : Type} {f : α → PyData} {R : α → V → Hp → Prop} {l : List α} {Hx : Hp} {d : Addr} {us : List V} {v : V} (hx : ∃ u, Hx d = some u) (h : CompR R Hx l v H) (hd : H d = some (.lst us)) (hR : ∀ x w, R x w H → Dp K (er d H) w (f x)) : Dp K (er d H) v (.list (l.map f)) := by
  obtain ⟨q, ws, rfl, nq, hq, hr⟩ := h
  have ne : q ≠ d := fun z => by
    obtain ⟨u, hu⟩ := hx
    rw [z, hu] at nq
    cases nq
  refine .lst (sq_of (by rw [er_ne ne]; exact hq)) (dpAll_rels (hr.imp hR))
def TupW (Z : Addr → Prop) (s : S) : Nat × Nat → V → Hp → Prop := fun r v H => ∃ q us, v = .ref q ∧ H q = some (.tup us) ∧ WLs Z H us (s.rows r.1 r.2)
theorem wls_mono {vs : List V} {ws : List Wt} (h : WLs Z H vs ws) (e : Ex H H') : WLs Z H' vs ws := h.keep fun a o q _ => e a o q
theorem wls_lst {d : Addr} {l : List V} {o : HO} (hd : H d = some (.lst l)) : ∀ {vs : List V} {ws : List Wt}, WLs Z H vs ws → WLs Z (upd H d o) vs ws
  | [], [], _ => trivial
  | _ :: _, _ :: _, h => by
    obtain ⟨⟨q, e, z, hq⟩, r⟩ := h
    exact ⟨⟨q, e, z, by rw [upd_ne (ne_of hq hd (by intro z; cases z))]; exact hq⟩, wls_lst hd r⟩
  | [], _ :: _, h => h.elim
  | _ :: _, [], h => h.elim
theorem stb_tupw : Stb (TupW Z s) where
  mono := fun e ⟨q, us, ev, hq, hw⟩ => ⟨q, us, ev, e _ _ hq, wls_mono hw e⟩
  lst := fun hd ⟨q, us, ev, hq, hw⟩ => ⟨q, us, ev, by rw [upd_ne (ne_of hq hd (by intro z; cases z))]; exact hq, wls_lst hd hw⟩
theorem evr_rd2 (h : EvR te σ H fun v H2 => ∃ q us, v = .ref q ∧ H q = none ∧ H2 q = some (.tup us) ∧ WLs Z H2 us (s.rows a b)) : EvR te σ H (TupW Z s (a, b)) := h.imp fun v H2 e ⟨q, us, ev, _, hq, hw⟩ => ⟨q, us, ev, hq, hw⟩
/-- [e for one, other in roads] -/
theorem evr_roadsL {α : Type} {R : α → V → Hp → Prop} {n : Nat} {q : Addr} {us : List V} {f : Nat × Nat → α} {σ : L2.St} {i1 i2 : Nat} {si : Nat × Nat → L2.St} (S : Stb R) (hn : n ≤ 6) (hl : Ev ta σ H (.ref q)) (hq : H q = some (.lst us)) (hr : Tups roadV H us (roads n)) (hw : ∀ r, wipe (si r) [i1, i2] = wipe σ [i1, i2])
    (hg : ∀ (r : Nat × Nat) (Q : L2.St → Hp → Prop) H1, Q (si r) H1 → gCons (gName i1) (gCons (gName i2) gNil) (roadV r) (wipe σ [i1, i2]) H1 Q) (he : ∀ (r : Nat × Nat) H1, Ex H H1 → Two n r.1 r.2 → EvR te (si r) H1 (R (f r))) :
    EvR (tLc (iList K ta) (gTup K 2 (gCons (gName i1) (gCons (gName i2) gNil))) tYes te [i1, i2]) σ H (CompR R H ((roads n).map f)) := by
  have := evr_cL (K := K) (σ := σ) (H := H) (tl := ta) (t := tYes) (te := te) (g := gTup K 2 (gCons (gName i1) (gCons (gName i2) gNil))) (vs := [i1, i2]) (R := R) (RS := TupR roadV) (ys := roads n) (b := fun _ => true) (x := fun i => f ((roads n).getD i (0, 0))) (si := fun _ r => si r) S stb_tup
    (fun H2 e Q k => hl H2 e _ fun H3 e3 => k _ H3 e3 ⟨q, us, rfl, (e.trans e3) _ _ hq, hr.mono stb_tup (e.trans e3)⟩) (Nat.le_trans (roads_len hn) (by decide)) (fun _ r => hw r) ?_ (fun _ _ _ _ _ _ _ => et_yes) ?_
  · rw [range_filter ((0, 0) : Nat × Nat) (fun _ => true) f (roads n), filt_t] at this
    exact this
  · rintro _ r H2 Q e ⟨q, rfl, hq⟩ hQ
    exact ⟨q, roadV r, rfl, st_of hq, rfl, hg r _ _ hQ⟩
  · rintro i _ r H2 e hr ⟨q, rfl, hq⟩ _
    rw [getD_of hr]
    exact he r H2 e (roads_get hr)
theorem u_lst4 {t1 t2 t3 t4 : TE} {Q : VK} (h : t1 σ H fun v1 H1 => t2 σ H1 fun v2 H2 => t3 σ H2 fun v3 H3 => t4 σ H3 fun v4 H4 => [v1, v2, v3, v4].length ≤ sizeLine ∧ ∀ p, H4 p = none → Q (.ref p) (upd H4 p (.lst [v1, v2, v3, v4]))) : tLst (tCons t1 (tCons t2 (tCons t3 (tCons t4 tNil)))) σ H Q := h
theorem u_tup4 {t1 t2 t3 t4 : TE} {Q : VK} (h : t1 σ H fun v1 H1 => t2 σ H1 fun v2 H2 => t3 σ H2 fun v3 H3 => t4 σ H3 fun v4 H4 => [v1, v2, v3, v4].length ≤ sizeLine ∧ ∀ p, H4 p = none → Q (.ref p) (upd H4 p (.tup [v1, v2, v3, v4]))) : tTup (tCons t1 (tCons t2 (tCons t3 (tCons t4 tNil)))) σ H Q := h
theorem pur_l_shown (T : TxtK K) : ∀ vs H Q E, sp_l_shown K vs H Q E → t_l_shown K { nx := fun _ H' => Q .non H', rt := Q } (start N_l_shown vs) H := by
  rintro vs H Q E ⟨A, s, Z, rfl, h, n0, n6, k⟩
  show t_l_shown K _ [some (.ref A.p), some (.int s.n), none, none, none, none, none] H
  unfold t_l_shown
  refine s_asgR (evr_roads (n := s.n) (ev_var rfl) n6) ?_
  rintro _ H1 e1 ⟨qr, us, rfl, nr, hqr, hr⟩
  have h1 := h.mono e1
  refine u_asg (u_lst4 (u_evU (eu_working h1 n6 (ev_var rfl)) fun q1 H2 n1 e2 hq1 => u_ev (ev_is_quiet (h1.mono e2) n6 (ev_var rfl)) fun H3 e3 => u_evU (eu_token (h1.mono (e2.trans e3)) (ev_var rfl)) fun q3 H4 n3 e4 hq3 => u_evU (eu_told (h1.mono (e2.trans (e3.trans e4))) n0 (ev_var rfl)) fun q4 H5 n4 e5 hq4 => ⟨by show 4 ≤ sizeLine; rw [sizeLine_eq]; decide, fun d hd => ?_⟩))
  have x5 := (e2.trans (e3.trans (e4.trans e5)))
  have f0 : Fd K H1 d (headD0 s) (upd H5 d (.lst [.ref q1, .bl s.quiet, .ref q3, .ref q4])) := ⟨fresh_back x5 hd, x5.trans (Ex.new hd), _, upd_same, rfl, by
    rw [er_upd]
    have g : ∀ {q : Addr} {us : List V}, H5 q = some (.tup us) → SqT K (er d H5) q us := fun {q us} hq => st_of (by rw [er_ne (ne_of_none hq hd)]; exact hq)
    exact .cons (.tup (g ((e3.trans (e4.trans e5)) _ _ hq1)) dpAll_ints) (.cons (.bl _) (.cons (.tup (g (e5 _ _ hq3)) (.cons (.int _) (.cons (.int _) (.cons dp_col .nil)))) (.cons (.tup (g hq4) dpAll_bls) .nil)))⟩
  generalize upd H5 d (.lst [.ref q1, .bl s.quiet, .ref q3, .ref q4]) = G0 at f0
  have ll : (headD0 s).length = 4 := rfl
  have hl1 : ∀ {G : Hp} {ds : List PyData}, Fd K H1 d ds G → ∃ u, G d = some u := fun f => let ⟨us, h1, _⟩ := f.at_; ⟨_, h1⟩
  show (tSeq _ _) _ [some (.ref A.p), some (.int s.n), some (.ref qr), some (.ref d), none, none, none] G0
  refine q_appF (dd := .list ((roads s.n).map fun r => .int ((s.rows r.1 r.2).length : Nat))) f0 (by rw [ll]; decide) (ev_var rfl) ((evr_roadsL (R := ValR V.int) (f := fun r => ((s.rows r.1 r.2).length : Int)) (q := qr) (us := us) (σ := [some (.ref A.p), some (.int s.n), some (.ref qr), some (.ref d), none, none, none]) (si := fun r => [some (.ref A.p), some (.int s.n), some (.ref qr), some (.ref d), none, some (.int r.1), some (.int r.2)]) (i1 := 5) (i2 := 6) stb_val n6 (ev_var rfl) (f0.ex _ _ hqr) (hr.mono stb_tup f0.ex) (fun _ => rfl) (fun r Q H1 q => ⟨_, _, rfl, _, _, rfl, rfl, q⟩)
    (fun r H2 e t => evr_of_ev (ev_works (h1.mono (f0.ex.trans e)) (ev_var rfl) (ev_var rfl) (ev_var rfl) t) rfl)).imp fun v H2 e hc us hd => by
      have := dp_of_comp (K := K) (f := PyData.int) (hl1 f0) hc hd fun x w hw => by rw [show w = V.int x from hw]; exact .int _
      rw [List.map_map] at this
      exact this) fun G1 f1 => ?_
  show (tSeq _ _) _ [some (.ref A.p), some (.int s.n), some (.ref qr), some (.ref d), none, none, none] G1
  refine q_appF (dd := .list ((roads s.n).map fun r => .int (s.slips r.1 r.2))) f1 (by rw [List.length_append, ll]; show 4 + 1 ≤ 1000; decide) (ev_var rfl) ((evr_roadsL (R := ValR V.int) (f := fun r => s.slips r.1 r.2) (q := qr) (us := us) (σ := [some (.ref A.p), some (.int s.n), some (.ref qr), some (.ref d), none, none, none]) (si := fun r => [some (.ref A.p), some (.int s.n), some (.ref qr), some (.ref d), none, some (.int r.1), some (.int r.2)]) (i1 := 5) (i2 := 6) stb_val n6 (ev_var rfl) (f1.ex _ _ hqr) (hr.mono stb_tup f1.ex) (fun _ => rfl) (fun r Q H1 q => ⟨_, _, rfl, _, _, rfl, rfl, q⟩)
    (fun r H2 e t => evr_of_ev (ev_receipts (h1.mono (f1.ex.trans e)) (ev_var rfl) (ev_var rfl) (ev_var rfl) t) rfl)).imp fun v H2 e hc us hd => by
      have := dp_of_comp (K := K) (f := PyData.int) (hl1 f1) hc hd fun x w hw => by rw [show w = V.int x from hw]; exact .int _
      rw [List.map_map] at this
      exact this) fun G2 f2 => ?_
  show (tSeq _ _) _ [some (.ref A.p), some (.int s.n), some (.ref qr), some (.ref d), none, none, none] G2
  refine q_appF (dd := .list ((roads s.n).map fun r => .tuple ((s.rows r.1 r.2).map wD))) f2 (by rw [List.length_append, List.length_append, ll]; show 4 + 1 + 1 ≤ 1000; decide) (ev_var rfl) ((evr_roadsL (R := TupW Z s) (f := id) (q := qr) (us := us) (σ := [some (.ref A.p), some (.int s.n), some (.ref qr), some (.ref d), none, none, none]) (si := fun r => [some (.ref A.p), some (.int s.n), some (.ref qr), some (.ref d), none, some (.int r.1), some (.int r.2)]) (i1 := 5) (i2 := 6) stb_tupw n6 (ev_var rfl) (f2.ex _ _ hqr) (hr.mono stb_tup f2.ex) (fun _ => rfl) (fun r Q H1 q => ⟨_, _, rfl, _, _, rfl, rfl, q⟩)
    (fun r H2 e t => evr_rd2 (evr_weights_on (h1.mono (f2.ex.trans e)) (ev_var rfl) (ev_var rfl) (ev_var rfl) t))).imp fun v H2 e hc us hd => by
      have := dp_of_comp (K := K) (f := fun r : Nat × Nat => PyData.tuple ((s.rows r.1 r.2).map wD)) (hl1 f2) hc hd fun x w ⟨q, vs, ew, hq, hw⟩ => by
        rw [ew]
        exact .tup (st_of (by rw [er_ne (ne_of hq hd (by intro z; cases z))]; exact hq)) (dpAll_wls hd hw)
      rw [List.map_id] at this
      exact this) fun G3 f3 => ?_
  have hlen : ∀ i, (headD3 s ++ (List.range i).flatMap (handD s)).length = 7 + 2 * i := fun i => by
    rw [List.length_append]
    have e1 : (headD3 s).length = 7 := rfl
    have e2 : ((List.range i).flatMap (handD s)).length = 2 * i := by
      induction i with
      | zero => rfl
      | succ i ih =>
        rw [List.range_succ, List.flatMap_append, List.length_append, ih]
        show 2 * i + (handD s i ++ []).length = _
        rw [List.append_nil]
        show 2 * i + 2 = _
        omega
    omega
  refine q_forR1 (D := { nx := _, rt := Q }) (n := (s.n : Int)) (ea_cons (ev_var rfl) ea_nil) ⟨by omega, by omega⟩ (fun i σ' H' => ∃ v4, σ' = [some (.ref A.p), some (.int s.n), some (.ref qr), some (.ref d), v4, none, none] ∧ Fd K H1 d (headD3 s ++ (List.range i).flatMap (handD s)) H')
    (fun H4 e4 => ⟨none, rfl, by rw [show (List.range 0).flatMap (handD s) = [] from rfl, List.append_nil]; exact f3.mono e4⟩) ?_ ?_
  · rintro i σ' G4 hi ⟨v4, rfl, f4⟩
    have hi : i < s.n := by omega
    show (tSeq _ _) _ [some (.ref A.p), some (.int s.n), some (.ref qr), some (.ref d), some (.int i), none, none] G4
    have h4 := h1.mono f4.ex
    refine q_appF (dd := .tuple [.int (s.due i), ovD (s.over i), wD (s.held i), .tuple ((s.hw i).map wD)]) f4 (by rw [hlen]; omega) (ev_var rfl) (fun H5 e5 Q k => u_tup4 (u_ev (ev_open_of (h4.mono e5) (ev_var rfl) (ev_var rfl) hi) fun H6 e6 => u_ev (ev_above (h4.mono (e5.trans e6)) (ev_var rfl) (ev_var rfl) hi) fun H7 e7 => u_evr (evr_weight_of (h4.mono (e5.trans (e6.trans e7))) (ev_var rfl) (ev_var rfl) hi) fun v8 H8 e8 hv8 =>
      u_evr (evr_weights_home (h4.mono (e5.trans (e6.trans (e7.trans e8)))) (ev_var rfl) (ev_var rfl) hi) fun v9 H9 e9 hv9 => ⟨by show 4 ≤ sizeLine; rw [sizeLine_eq]; decide, fun p hp => k _ _ ((e6.trans (e7.trans (e8.trans e9))).trans (Ex.new hp)) fun us hd => ?_⟩)) fun G5 f5 => ?_
    · obtain ⟨q8, rfl, _, hq8⟩ := hv8
      obtain ⟨q9, us9, rfl, _, hq9, hw9⟩ := hv9
      obtain ⟨ud, hud, _⟩ := f4.at_
      have hud9 := (e5.trans (e6.trans (e7.trans (e8.trans e9)))) _ _ hud
      have pd : p ≠ d := fun z => by
        rw [z, hud9] at hp
        cases hp
      have px : Ex H9 (upd H9 p (.tup [.int (s.due i), ovV (s.over i), .ref q8, .ref q9])) := Ex.new hp
      have n8 : q8 ≠ d := ne_of (px _ _ (e9 _ _ hq8)) hd (by intro z; cases z)
      have n9 : q9 ≠ d := ne_of (px _ _ hq9) hd (by intro z; cases z)
      refine .tup (st_of (by rw [er_ne pd, upd_same])) (.cons (.int _) (.cons dp_ov (.cons (dp_w (by rw [er_ne n8]; exact px _ _ (e9 _ _ hq8))) (.cons (.tup (st_of (by rw [er_ne n9]; exact px _ _ hq9)) (dpAll_wls hd (wls_mono hw9 px))) .nil))))
    · have h5 := h1.mono f5.ex
      refine s_appF (dd := .tuple [.int (s.cnt i), colD (s.blk i)]) f5 (by rw [List.length_append, hlen]; show 7 + 2 * i + 1 ≤ 1000; omega) (ev_var rfl) (fun H6 e6 Q k => (eu_tup (vs := [.int (s.cnt i), colS (s.blk i)]) (ea_cons (ev_count_of (h5.mono e6) (ev_var rfl) (ev_var rfl) hi) (ea_cons (ev_colour_of (h5.mono e6) (ev_var rfl) (ev_var rfl) hi) ea_nil)) (by show 2 ≤ 100000; decide) : EvU _ _ H6 _) H6 (Ex.refl H6) Q fun p H7 np e7 hp => k _ H7 e7 fun us hd => ?_) fun G6 f6 => ?_
      · have pd : p ≠ d := ne_of hp hd (by intro z; cases z)
        exact .tup (st_of (by rw [er_ne pd]; exact hp)) (.cons (.int _) (.cons dp_col .nil))
      · refine ⟨_, rfl, ?_⟩
        rw [List.range_succ, List.flatMap_append]
        have e : headD3 s ++ ((List.range i).flatMap (handD s) ++ [i].flatMap (handD s)) = headD3 s ++ (List.range i).flatMap (handD s) ++ [.tuple [.int (s.due i), ovD (s.over i), wD (s.held i), .tuple ((s.hw i).map wD)]] ++ [.tuple [.int (s.cnt i), colD (s.blk i)]] := by
          simp [handD]
        rw [e]
        exact f6
  · rintro σ' G4 ⟨v4, rfl, f4⟩
    have en : ((s.n : Int)).toNat = s.n := by omega
    rw [en] at f4
    refine s_ret (ev_var (v := .ref d) rfl) fun G5 e5 => ?_
    have f5 := f4.mono e5
    obtain ⟨ws, w1, w2, w3⟩ := f5.at_
    exact k G5 d (e1.trans f5.ex) (.lst (sq_of w1) (dpAll_mono er_ex w3))
/-! ### what is shown can be laid -/
def OkD (k : Nat) (d : PyData) : Prop := d.canLay0 = true ∧ d.depth ≤ k
theorem okAll {k : Nat} : ∀ {ds : List PyData}, (∀ d ∈ ds, OkD k d) → PyData.canLayAll0 ds = true ∧ PyData.depthAll ds ≤ k
  | [], _ => ⟨rfl, Nat.zero_le _⟩
  | d :: ds, h => by
    obtain ⟨h1, h2⟩ := h d List.mem_cons_self
    obtain ⟨h3, h4⟩ := okAll fun d hd => h d (List.mem_cons_of_mem _ hd)
    rw [PyData.canLayAll0, PyData.depthAll, h1, h3]
    exact ⟨rfl, by omega⟩
theorem okTup {k : Nat} {ds : List PyData} (h : ∀ d ∈ ds, OkD k d) : OkD (k + 1) (.tuple ds) := by
  obtain ⟨h1, h2⟩ := okAll h
  unfold OkD
  rw [PyData.canLay0, PyData.depth]
  exact ⟨h1, by omega⟩
theorem okLst {k : Nat} {ds : List PyData} (h : ∀ d ∈ ds, OkD k d) : OkD (k + 1) (.list ds) := by
  obtain ⟨h1, h2⟩ := okAll h
  unfold OkD
  rw [PyData.canLay0, PyData.depth]
  exact ⟨h1, by omega⟩
theorem OkD.up {k m : Nat} {d : PyData} (h : OkD k d) (e : k ≤ m) : OkD m d := ⟨h.1, Nat.le_trans h.2 e⟩
theorem ok_int {i : Int} : OkD 0 (.int i) := ⟨rfl, Nat.le_refl _⟩
theorem ok_bool {i : Bool} : OkD 0 (.bool i) := ⟨rfl, Nat.le_refl _⟩
theorem ok_col {b : Bool} : OkD 0 (colD b) := by cases b <;> exact ⟨by decide +kernel, by decide +kernel⟩
theorem ok_ov {o : Option Nat} : OkD 0 (ovD o) := by cases o <;> exact ⟨rfl, Nat.le_refl _⟩
theorem ok_w {w : Wt} : OkD 1 (wD w) := okTup fun d hd => by
  simp only [List.mem_cons, List.not_mem_nil, or_false] at hd
  rcases hd with rfl | rfl <;> exact ok_int
theorem ok_ws {l : List Wt} : OkD 2 (.tuple (l.map wD)) := okTup fun d hd => by
  obtain ⟨w, _, rfl⟩ := List.mem_map.mp hd
  exact ok_w
theorem shown_ok {s : S} : OkD 4 s.shownD := by
  refine okLst (k := 3) fun d hd => ?_
  unfold headD3 headD2 headD1 headD0 at hd
  simp only [List.mem_append, List.mem_cons, List.not_mem_nil, or_false, List.mem_flatMap, handD] at hd
  rcases hd with ((((rfl | rfl | rfl | rfl) | rfl) | rfl) | rfl) | z
  · exact (okTup (k := 0) fun d hd => by obtain ⟨w, _, rfl⟩ := List.mem_map.mp hd; exact ok_int).up (by decide)
  · exact ok_bool.up (by decide)
  · refine (okTup (k := 0) fun d hd => ?_).up (by decide)
    simp only [List.mem_cons, List.not_mem_nil, or_false] at hd
    rcases hd with rfl | rfl | rfl
    · exact ok_int
    · exact ok_int
    · exact ok_col
  · exact (okTup (k := 0) fun d hd => by obtain ⟨w, _, rfl⟩ := List.mem_map.mp hd; exact ok_bool).up (by decide)
  · exact (okLst (k := 0) fun d hd => by obtain ⟨w, _, rfl⟩ := List.mem_map.mp hd; exact ok_int).up (by decide)
  · exact (okLst (k := 0) fun d hd => by obtain ⟨w, _, rfl⟩ := List.mem_map.mp hd; exact ok_int).up (by decide)
  · exact okLst (k := 2) fun d hd => by obtain ⟨w, _, rfl⟩ := List.mem_map.mp hd; exact ok_ws
  · obtain ⟨h, _, z⟩ := z
    rcases z with rfl | rfl
    · refine okTup (k := 2) fun d hd => ?_
      simp only [List.mem_cons, List.not_mem_nil, or_false] at hd
      rcases hd with rfl | rfl | rfl | rfl
      · exact ok_int.up (by decide)
      · exact ok_ov.up (by decide)
      · exact ok_w.up (by decide)
      · exact ok_ws
    · refine (okTup (k := 0) fun d hd => ?_).up (by decide)
      simp only [List.mem_cons, List.not_mem_nil, or_false] at hd
      rcases hd with rfl | rfl
      · exact ok_int
      · exact ok_col
theorem shown_shaped {s : S} : SeqAt.shaped s.shownD = true := by
  obtain ⟨h1, h2⟩ := shown_ok (s := s)
  unfold SeqAt.shaped
  rw [h1, decide_eq_true (Nat.le_trans h2 (by decide))]
  rfl
theorem shown_eqv {s : S} : PyData.eqv s.shownD s.shownD = true := PySem.SeqAt.eqv_refl _ shown_ok.1
theorem evr_shown (h : HallAt K Z H A s) (n0 : 0 < s.n) (n6 : s.n ≤ 6) (h1 : Ev ta σ H (.ref A.p)) (h2 : Ev tb σ H (.int s.n)) : EvR (tCall (sp_l_shown K) [] E0 (tCons ta (tCons tb tNil))) σ H (fun v H2 => Dp K H2 v s.shownD) :=
  evr_call (ea_cons h1 (ea_cons h2 ea_nil)) fun H1 e Q q E => ⟨A, s, Z, rfl, h.mono e, n0, n6, fun H' r e' hd => q _ H' e' hd⟩
end
end QH

/-! Rules for defs that may raise (k04); a hook with one more thing asked. -/
namespace QH
open PySem PySem.Spec PyProof.Rows L2 Evl
/-- as FOk, MOk, for defs that may raise -/
structure FOkX (P : Program) (w : World) (K : PySem.W.Frag) (mg : Str → Option Value) (base : Heap) (x : Str) (ps : List Str) (lv : Nat) (sp : Sp) : Prop where
  gl : mg x = some (.ref (He.ga K x))
  fn : ∃ fd, FnOk P w K mg base (L2.CX P w) lv (He.ga K x) fd ps sp ∧ Binds K fd ps []
  kp : PySem.W.keepIn K (.ref (He.ga K x)) = true
structure MOkX (P : Program) (w : World) (K : PySem.W.Frag) (mg : Str → Option Value) (base : Heap) (C m : Str) (ps : List Str) (lv : Nat) (sp : Sp) : Prop where
  mt : Meth K (He.ga K C) m (He.ma K (He.ga K C) m)
  fn : ∃ fd, FnOk P w K mg base (L2.CX P w) lv (He.ma K (He.ga K C) m) fd ps sp ∧ Binds K fd ps []
/-- o.m(), what it raises wished for at the caller's slots -/
def tMethW (C : Addr) (m : Str) (sp : Sp) (E : L2.St → XK) (ta : TE) : TE := fun σ H Q => ta σ H fun x H1 => ∃ (a dx : Addr) (fs : List (Str × V)), x = .ref a ∧ H1 a = some (.ins C dx fs) ∧ fs.lookup m = none ∧ sp [x] H1 Q (E σ)
section
variable {X : Cx} {lv : Nat} {ps : List Str} {sp : Sp} {x m Cn : Str} {p pos apos : Pos} {e o : Expr} {es : List Expr} {ta : TE} {t : TA} {E : XK} {W : WX}
theorem pe_fX (G : FOkX X.prog X.w X.K X.mg X.base x ps lv sp) (hr : Room lv X.A) (tk : Takes X fun cls d _ H => E cls d H) (hg : Gl X x) (ha : PA X (e :: es) t) (hdb : (x == ("__debug__" : Str)) = false := by decide)
    (he : starEach (e :: es) X.env = (false, eval e X.env) :: starEach es X.env := by rfl) (hpl : (backTo pos (starEach es X.env)).any (·.1) = false := by rfl) : PE X (.Call (.Name x p) (e :: es) [] pos) (tCall sp [] E t) := by
  obtain ⟨fd, F, b⟩ := G.fn
  exact pe_call F hr hg G.gl G.kp b .nil (passes_call tk fun _ _ _ _ h => h) ha hdb he hpl
theorem pe_fW (G : FOkX X.prog X.w X.K X.mg X.base x ps lv sp) (hr : Room lv X.A) (tk : Takes X W) (hg : Gl X x) (ha : PA X (e :: es) t) (hdb : (x == ("__debug__" : Str)) = false := by decide)
    (he : starEach (e :: es) X.env = (false, eval e X.env) :: starEach es X.env := by rfl) (hpl : (backTo pos (starEach es X.env)).any (·.1) = false := by rfl) : PE X (.Call (.Name x p) (e :: es) [] pos) (tCallS sp (WE W) t) := by
  obtain ⟨fd, F, b⟩ := G.fn
  exact pe_callS F hr hg G.gl G.kp b (fun σ => passAt tk σ) ha hdb he hpl
theorem pe_mX {pl : Sem Bool} (he : PE X o ta) (c : Cls X.K (He.ga X.K Cn)) (G : MOkX X.prog X.w X.K X.mg X.base Cn m ps lv sp) (hr : Room lv X.A) (tk : Takes X fun cls d _ H => E cls d H) (ha : PA X (e :: es) t)
    (hst : starEach (e :: es) X.env = (false, eval e X.env) :: starEach es X.env := by rfl) (hpl : (backTo pos (starEach es X.env)).any (·.1) = false := by rfl)
    (ht : eval (.Call (.Attribute o m apos) (e :: es) [] pos) X.env = (do
      let ov ← eval o X.env
      standAt apos.atName
      let (f, first) ← holding [ov] (getMethod ov m pl)
      callWith pos f first (backTo pos (starEach (e :: es) X.env)) (backToKw pos (keywordEach [] X.env))) := by rfl) :
    PE X (.Call (.Attribute o m apos) (e :: es) [] pos) (tMeth (He.ga X.K Cn) m sp [] E ta t) := by
  obtain ⟨fd, F, b⟩ := G.fn
  exact pe_meth he c G.mt F hr b .nil (passes_call tk fun _ _ _ _ h => h) ha hst hpl ht
theorem pe_mW0 {pl : Sem Bool} (he : PE X o ta) (c : Cls X.K (He.ga X.K Cn)) (G : MOkX X.prog X.w X.K X.mg X.base Cn m ps lv sp) (hr : Room lv X.A) (tk : Takes X W)
    (ht : eval (.Call (.Attribute o m apos) [] [] pos) X.env = (do
      let ov ← eval o X.env
      standAt apos.atName
      let (f, first) ← holding [ov] (getMethod ov m pl)
      callWith pos f first (backTo pos (starEach [] X.env)) (backToKw pos (keywordEach [] X.env))) := by rfl) :
    PE X (.Call (.Attribute o m apos) [] [] pos) (tMethW (He.ga X.K Cn) m sp (WE W) ta) := by
  obtain ⟨fd, F, b⟩ := G.fn
  constructor
  intro pins s σ H Q I h
  apply PySem.W.methodCall_KW (pl := pl) _ ht
  refine thn (he.run pins s σ H _ I h) ?_
  rintro u s1 ⟨_, H1, I1, rx, a, dx, fs, rfl, ea, l, q⟩
  obtain rfl : u = Value.ref a := rx
  refine getmeth_ok I1 ea c G.mt l ?_
  exact PySem.W.callWith_K0 (first := [.ref a]) I1.kIn G.mt.kp (run_fnS (us := [.ref a]) (vs := [.ref a]) F hr b (passAt tk σ) I1 (.cons rfl .nil) q)
end
section
variable {P : Program} {w : World} {K : PySem.W.Frag} {mg : Str → Option Value} {base : Heap}
/-- from a body's reading to a promise kept, the def may raise -/
theorem fn_byX {x q : Str} {s : Stmt} {f : Addr} {N ps : List Str} {k : Nat} {sp : Sp} {t : XK → TS} (D : Df K x q s f) (S : FnScope N ps (defScope s)) (len : ∀ vs H Q E, sp vs H Q E → vs.length = ps.length)
    (bind : ∀ (kV doc pm : Value) (an : Option Addr) (cdv ct : Value) (us : List Value), us.length = ps.length → bindArgs (PySem.W.fnOf x q (defArgs s) (defBody s) (defScope s) .none kV doc pm an cdv ct) ⟨us, []⟩ = pure (ps.zip us))
    (der : ∀ (cdv : Value) (A : Around) (outer : List Env) (s0 : Shared) (H : Hp) (E : XK), Room k (A.deeper (envOfC q (defScope s) s0.heap.objs.size f cdv)) → Takes (cxOf (L2.CX P w) P w K mg base N q (defScope s) f cdv A outer s0 H E) (fun cls d _ H' => E cls d H') →
      PSs (cxOf (L2.CX P w) P w K mg base N q (defScope s) f cdv A outer s0 H E) (defBody s) (t E))
    (pur : ∀ vs H Q E, sp vs H Q E → t E { nx := fun _ H' => Q .non H', rt := Q } (start N vs) H) : ∃ fd, FnOk P w K mg base (L2.CX P w) (k + 1) f fd ps sp ∧ Binds K fd ps [] := by
  obtain ⟨fd, F⟩ := D
  exact ⟨fd, F.ok S len fun cdv A outer s0 H vs Q E hr h => ⟨t E, der cdv A outer s0 H E hr (takes_of rfl rfl rfl rfl), pur vs H Q E h⟩, F.bindsN bind⟩
end
/-- raise C(..) -/
abbrev tRs (C : Addr) (E : XK) : TS := fun _ _ H => E (.ref C) none H
/-- what the top has of an exception's class -/
structure ExcT (K : PySem.W.Frag) (mg : Str → Option Value) (x : Str) : Prop where
  xx : PySem.W.excIn K (He.ga K x) He.veBase "ValueError.__new__" = true
  k : PySem.W.keepIn K (.ref (He.ga K x)) = true
  b : PySem.W.subIn K (.ref (He.ga K x)) (.type "BaseException") = some true
  t : PySem.W.typeIn K (.ref (He.ga K x)) = some (.type "type")
  g : mg x = some (.ref (He.ga K x))
  m : PySem.W.exmOne K (.ref (He.ga K x)) (.ref (He.ga K "HallError")) = some true
  c : ExcC K (He.ga K x)
  ve : PySem.W.kitOne K (.ref (He.ga K x)) (.type "ValueError") = some true
  nh : PySem.W.kitOne K (.ref (He.ga K x)) (.ref (He.ga K "NoHand")) = some (decide (x = "NoHand"))
  nn : PySem.W.kitOne K (.ref (He.ga K x)) (.ref (He.ga K "NotNow")) = some (decide (x = "NotNow"))
structure TxX (K : PySem.W.Frag) (mg : Str → Option Value) : Prop where
  he : mg "HallError" = some (.ref (He.ga K "HallError"))
  v : mg "ValueError" = none
  NoHand : ExcT K mg "NoHand"
  NotNow : ExcT K mg "NotNow"
/-! ### a hook that asks one thing more -/
def excB (K : PySem.W.Frag) (x : Str) : Bool :=
  decide (PySem.W.findIn K (.ref (He.ga K x)) "__getattribute__" = some (some (.builtin "BaseException.__getattribute__"))) && (decide (PySem.W.findIn K (.ref (He.ga K x)) "__getattr__" = some none) &&
  (decide (PySem.W.subIn K (.ref (He.ga K x)) (.type "BaseException") = some true) && (PySem.W.hasDictIn K (He.ga K x) && (decide (PySem.W.findIn K (.ref (He.ga K x)) "__class__" = some (some (.builtin "object.__class__"))) &&
  (decide (PySem.W.specialIn K (.builtin "object.__class__") "__get__" = some (some (.builtin "getset_descriptor.__get__"))) && (decide (PySem.W.takesIn K (.builtin "object.__class__") = some true) &&
  (decide (PySem.W.mroIn K (He.ga K x) (.type "object") = some true) && (decide (PySem.W.kitOne K (.ref (He.ga K x)) (.type "ValueError") = some true) &&
  (decide (PySem.W.kitOne K (.ref (He.ga K x)) (.ref (He.ga K "NoHand")) = some (decide (x = "NoHand"))) && decide (PySem.W.kitOne K (.ref (He.ga K x)) (.ref (He.ga K "NotNow")) = some (decide (x = "NotNow"))))))))))))
theorem excB_ok {K : PySem.W.Frag} {mg : Str → Option Value} {x : Str} (h : excB K x = true) (e : (He.Fa.exc x).ok K = true) (g : mg x = some (.ref (He.ga K x))) (m : PySem.W.exmOne K (.ref (He.ga K x)) (.ref (He.ga K "HallError")) = some true) : ExcT K mg x := by
  obtain ⟨x1, x2, x3, x4⟩ := He.exc_ok e
  unfold excB at h
  simp only [Bool.and_eq_true, decide_eq_true_eq] at h
  obtain ⟨h1, h2, h3, h4, h5, h6, h7, h8, h9, h10, h11⟩ := h
  exact ⟨x1, x2, x3, x4, g, m, ⟨h1, h2, h3, h4, h5, h6, h7, h8⟩, h9, h10, h11⟩
def moreB (K : PySem.W.Frag) : Bool := excB K "NoHand" && excB K "NotNow"
abbrev AlX : Type := He.AlD × Bool
def obsX (n : Nat) (fa : List He.Fa) (fn : List He.DefD) (g : Addr → Option Obj) : AlX := (He.obsD fa fn (He.frG g (He.asD g n)), moreB (He.frG g (He.asD g n)))
def SaysX (fa : List He.Fa) (fn : List He.DefD) (K : PySem.W.Frag) : Prop := He.SaysD fa fn K ∧ moreB K = true
def hookX (n : Nat) (fa : List He.Fa) (fn : List He.DefD) : PySem.W.Hook where
  α := AlX
  obs := fun s => obsX n fa fn s.heap.get?
  val := fun _ => (He.valD fn, true)
  says := fun _ h => ∃ K : PySem.W.Frag, K.In h ∧ SaysX fa fn K
  of := fun _ s e => ⟨He.frG s.heap.get? (He.asD s.heap.get? n), He.frG_in, congrArg Prod.fst e, congrArg Prod.snd e⟩
  keeps := fun _ _ _ ⟨K, hK, c⟩ k => ⟨K, PySem.W.Frag.In.keeps hK k, c⟩
theorem obsX_eq {n : Nat} {fa : List He.Fa} {fn : List He.DefD} {g : Addr → Option Obj} {s : Shared} (h : ∀ a, g a = s.heap.get? a) : obsX n fa fn g = (hookX n fa fn).obs s := by
  have e : g = s.heap.get? := funext h
  subst e
  rfl
end QH

/-! Law k04: the promises of its own defs, and of what is refused. -/
namespace QH
open PySem PySem.Spec PyProof.Rows L2 Evl
def In1 (s : S) (i : Int) : Prop := 0 ≤ i ∧ i < s.n
def In2 (s : S) (i j : Int) : Prop := In1 s i ∧ In1 s j ∧ i ≠ j
/-- why it is refused, two hands: they are not there; or f -/
def bad2 (f : S → Nat → Nat → Prop) (s : S) (i j : Int) (c : Str) : Prop := (c = "NoHand" ∧ ¬ In2 s i j) ∨ (c = "NotNow" ∧ ∃ a b : Nat, i = a ∧ j = b ∧ Two s.n a b ∧ f s a b)
/-- .. one hand: it is not there, or g; or f -/
def bad1 (g f : S → Nat → Prop) (s : S) (i : Int) (c : Str) : Prop := (c = "NoHand" ∧ (¬ In1 s i ∨ ∃ a : Nat, i = a ∧ a < s.n ∧ g s a)) ∨ (c = "NotNow" ∧ ∃ a : Nat, i = a ∧ a < s.n ∧ f s a)
def no2 : S → Nat → Nat → Prop := fun _ _ _ => False
def no1 : S → Nat → Prop := fun _ _ => False
def badSend := bad2 fun s a _ => s.busy a = false
def badTake := bad2 fun s a b => s.rows a b = []
def badBack := bad2 fun s a b => ¬ 0 < s.slips a b
def badRest := bad1 no1 fun s a => s.busy a = false
def badHome := bad1 (fun _ a => a = 0) fun s a => 0 < a ∧ s.hw a = []
def badPass (s : S) (c : Str) : Prop := c = "NotNow" ∧ s.place < s.n ∧ s.busy s.place = true
def spR0 (K : PySem.W.Frag) (bad : S → Str → Prop) : Sp := fun vs H _ E => ∃ (A : Ad) (s : S) (Z : Addr → Prop) (c : Str), vs = [.ref A.p] ∧ HallAt K Z H A s ∧ bad s c ∧ ∀ H', Ex H H' → E (.ref (He.ga K c)) none H'
def spR1 (K : PySem.W.Frag) (bad : S → Int → Str → Prop) : Sp := fun vs H _ E => ∃ (A : Ad) (s : S) (Z : Addr → Prop) (i : Int) (c : Str), vs = [.ref A.p, .int i] ∧ HallAt K Z H A s ∧ bad s i c ∧ ∀ H', Ex H H' → E (.ref (He.ga K c)) none H'
def spR2 (K : PySem.W.Frag) (bad : S → Int → Int → Str → Prop) : Sp := fun vs H _ E => ∃ (A : Ad) (s : S) (Z : Addr → Prop) (i j : Int) (c : Str), vs = [.ref A.p, .int i, .int j] ∧ HallAt K Z H A s ∧ bad s i j c ∧ ∀ H', Ex H H' → E (.ref (He.ga K c)) none H'
def spX_Hall_must_be (K : PySem.W.Frag) : Sp := fun vs H Q E => ∃ (A : Ad) (s : S) (Z : Addr → Prop) (i : Int), vs = [.ref A.p, .int i] ∧ HallAt K Z H A s ∧ (In1 s i → ∀ H', Ex H H' → Q .non H') ∧ (¬ In1 s i → ∀ H', Ex H H' → E (.ref (He.ga K "NoHand")) none H')
def spX_Hall_must_be_two (K : PySem.W.Frag) : Sp := fun vs H Q E => ∃ (A : Ad) (s : S) (Z : Addr → Prop) (i j : Int), vs = [.ref A.p, .int i, .int j] ∧ HallAt K Z H A s ∧ (In2 s i j → ∀ H', Ex H H' → Q .non H') ∧ (¬ In2 s i j → ∀ H', Ex H H' → E (.ref (He.ga K "NoHand")) none H')
def spX_Hall_must (K : PySem.W.Frag) : Sp := fun vs H _ E => ∃ v : V, vs = [v, .bl false] ∧ ∀ H', Ex H H' → E (.ref (He.ga K "NotNow")) none H'
def spX_Hall_send (K : PySem.W.Frag) : Sp := spR2 K badSend
def spX_Hall_take (K : PySem.W.Frag) : Sp := spR2 K badTake
def spX_Hall_back (K : PySem.W.Frag) : Sp := spR2 K badBack
def spX_Hall_works (K : PySem.W.Frag) : Sp := spR2 K (bad2 no2)
def spX_Hall_receipts (K : PySem.W.Frag) : Sp := spR2 K (bad2 no2)
def spX_Hall_weights_on (K : PySem.W.Frag) : Sp := spR2 K (bad2 no2)
def spX_Hall_rest (K : PySem.W.Frag) : Sp := spR1 K badRest
def spX_Hall_home (K : PySem.W.Frag) : Sp := spR1 K badHome
def spX_Hall_open_of (K : PySem.W.Frag) : Sp := spR1 K (bad1 no1 no1)
def spX_Hall_above (K : PySem.W.Frag) : Sp := spR1 K (bad1 no1 no1)
def spX_Hall_weight_of (K : PySem.W.Frag) : Sp := spR1 K (bad1 no1 no1)
def spX_Hall_weights_home (K : PySem.W.Frag) : Sp := spR1 K (bad1 no1 no1)
def spX_Hall_count_of (K : PySem.W.Frag) : Sp := spR1 K (bad1 no1 no1)
def spX_Hall_colour_of (K : PySem.W.Frag) : Sp := spR1 K (bad1 no1 no1)
def spX_Hall_pass_on (K : PySem.W.Frag) : Sp := spR0 K badPass
/-- an act or a question by its number -/
def askBad1 (s : S) (way : Nat) (i : Int) (c : Str) : Prop := match way with
  | 6 => badRest s i c
  | 7 => badHome s i c
  | _ => bad1 no1 no1 s i c
def askBad (s : S) (way : Nat) (i j : Int) (c : Str) : Prop := match way with
  | 0 => badSend s i j c
  | 1 => badTake s i j c
  | 2 => badBack s i j c
  | 3 => bad2 no2 s i j c
  | 4 => bad2 no2 s i j c
  | 5 => bad2 no2 s i j c
  | w => askBad1 s w i c
def spX_l_ask_one (K : PySem.W.Frag) : Sp := fun vs H _ E => ∃ (A : Ad) (s : S) (Z : Addr → Prop) (way : Nat) (i : Int) (c : Str), vs = [.ref A.p, .int way, .int i] ∧ HallAt K Z H A s ∧ 6 ≤ way ∧ way ≤ 13 ∧ askBad1 s way i c ∧ ∀ H', Ex H H' → E (.ref (He.ga K c)) none H'
def spX_l_ask (K : PySem.W.Frag) : Sp := fun vs H _ E => ∃ (A : Ad) (s : S) (Z : Addr → Prop) (way : Nat) (i j : Int) (c : Str), vs = [.ref A.p, .int way, .int i, .int j] ∧ HallAt K Z H A s ∧ way ≤ 13 ∧ askBad s way i j c ∧ ∀ H', Ex H H' → E (.ref (He.ga K c)) none H'
/-- what is told of a refusal -/
def word (nh : Bool) : Str := if nh then "no hand" else "not now"
def exName (nh : Bool) : Str := if nh then "NoHand" else "NotNow"
def sp_l_said (K : PySem.W.Frag) : Sp := fun vs H Q _ => ∃ (A : Ad) (s : S) (Z : Addr → Prop) (way : Nat) (i j : Int) (nh : Bool), vs = [.ref A.p, .int way, .int i, .int j] ∧ HallAt K Z H A s ∧ ((way = 14 ∧ badPass s (exName nh)) ∨ (way ≤ 13 ∧ askBad s way i j (exName nh))) ∧ ∀ H', Ex H H' → Q (.str (word nh)) H'
def canW (s : S) (way a b : Nat) : Bool := match way with
  | 0 => s.busy a
  | 6 => s.busy a
  | 1 => decide (0 < (s.rows a b).length)
  | 2 => decide (0 < s.slips a b)
  | _ => decide (0 < (s.hw a).length)
def sp_l_can (K : PySem.W.Frag) : Sp := fun vs H Q _ => ∃ (A : Ad) (s : S) (Z : Addr → Prop) (way a b : Nat), vs = [.ref A.p, .int way, .int a, .int b] ∧ HallAt K Z H A s ∧ s.n ≤ 6 ∧ way ∈ [0, 1, 2, 6, 7] ∧ Two s.n a b ∧ ∀ H', Ex H H' → Q (.bl (canW s way a b)) H'
end QH

namespace QH
open PySem PySem.Spec PyProof.Rows L2 Evl
def tX_Hall_must_be (K : PySem.W.Frag) (E : XK) : TS :=
  (tIfS (tNot (tTest (tChain rLeI rLtI (tC (.int 0)) (tVar 1) (tFld K (tVar 0) "many")))) (tRs (He.ga K "NoHand") E) tNext)
def tX_Hall_must_be_two (K : PySem.W.Frag) (E : XK) : TS :=
  (tSeq (tDrop (tMeth (He.ga K "Hall") "must_be" (spX_Hall_must_be K) [] E (tVar 0) (tCons (tVar 1) tNil))) (tSeq (tDrop (tMeth (He.ga K "Hall") "must_be" (spX_Hall_must_be K) [] E (tVar 0) (tCons (tVar 2) tNil))) (tIfS (tTest (tOp rEq (tVar 1) (tVar 2))) (tRs (He.ga K "NoHand") E) tNext)))
def tX_Hall_must (K : PySem.W.Frag) (E : XK) : TS :=
  (tIfS (tNot (tB (tVar 1))) (tRs (He.ga K "NotNow") E) tNext)
def tX_Hall_works (K : PySem.W.Frag) (E : XK) : TS :=
  (tSeq (tDrop (tMeth (He.ga K "Hall") "must_be_two" (spX_Hall_must_be_two K) [] E (tVar 0) (tCons (tVar 1) (tCons (tVar 2) tNil)))) tNever)
def tX_Hall_receipts (K : PySem.W.Frag) (E : XK) : TS :=
  (tSeq (tDrop (tMeth (He.ga K "Hall") "must_be_two" (spX_Hall_must_be_two K) [] E (tVar 0) (tCons (tVar 1) (tCons (tVar 2) tNil)))) tNever)
def tX_Hall_weights_on (K : PySem.W.Frag) (E : XK) : TS :=
  (tSeq (tDrop (tMeth (He.ga K "Hall") "must_be_two" (spX_Hall_must_be_two K) [] E (tVar 0) (tCons (tVar 1) (tCons (tVar 2) tNil)))) tNever)
def tX_Hall_open_of (K : PySem.W.Frag) (E : XK) : TS :=
  (tSeq (tDrop (tMeth (He.ga K "Hall") "must_be" (spX_Hall_must_be K) [] E (tVar 0) (tCons (tVar 1) tNil))) tNever)
def tX_Hall_above (K : PySem.W.Frag) (E : XK) : TS :=
  (tSeq (tDrop (tMeth (He.ga K "Hall") "must_be" (spX_Hall_must_be K) [] E (tVar 0) (tCons (tVar 1) tNil))) tNever)
def tX_Hall_weight_of (K : PySem.W.Frag) (E : XK) : TS :=
  (tSeq (tDrop (tMeth (He.ga K "Hall") "must_be" (spX_Hall_must_be K) [] E (tVar 0) (tCons (tVar 1) tNil))) tNever)
def tX_Hall_weights_home (K : PySem.W.Frag) (E : XK) : TS :=
  (tSeq (tDrop (tMeth (He.ga K "Hall") "must_be" (spX_Hall_must_be K) [] E (tVar 0) (tCons (tVar 1) tNil))) tNever)
def tX_Hall_count_of (K : PySem.W.Frag) (E : XK) : TS :=
  (tSeq (tDrop (tMeth (He.ga K "Hall") "must_be" (spX_Hall_must_be K) [] E (tVar 0) (tCons (tVar 1) tNil))) tNever)
def tX_Hall_colour_of (K : PySem.W.Frag) (E : XK) : TS :=
  (tSeq (tDrop (tMeth (He.ga K "Hall") "must_be" (spX_Hall_must_be K) [] E (tVar 0) (tCons (tVar 1) tNil))) tNever)
def tX_Hall_send (K : PySem.W.Frag) (E : XK) : TS :=
  (tSeq (tDrop (tMeth (He.ga K "Hall") "must_be_two" (spX_Hall_must_be_two K) [] E (tVar 0) (tCons (tVar 1) (tCons (tVar 2) tNil)))) (tSeq (tDrop (tMeth (He.ga K "Hall") "must" (spX_Hall_must K) [] E (tVar 0) (tCons (tOp (rIxL K) (tFld K (tVar 0) "busy") (tVar 1)) tNil))) (tSeq tNever (tSeq tNever tNever))))
def tX_Hall_take (K : PySem.W.Frag) (E : XK) : TS :=
  (tSeq (tDrop (tMeth (He.ga K "Hall") "must_be_two" (spX_Hall_must_be_two K) [] E (tVar 0) (tCons (tVar 1) (tCons (tVar 2) tNil)))) (tSeq (tDrop (tMeth (He.ga K "Hall") "must" (spX_Hall_must K) [] E (tVar 0) (tCons (tOp rGtI (tCB (rLenS K) (tCons (tMeth (He.ga K "Hall") "row" (sp_Hall_row K) [] E0 (tVar 0) (tCons (tVar 1) (tCons (tVar 2) tNil))) tNil)) (tC (.int 0))) tNil))) (tSeq tNever (tSeq tNever (tSeq tNever (tSeq tNever tNever))))))
def tX_Hall_rest (K : PySem.W.Frag) (E : XK) : TS :=
  (tSeq (tDrop (tMeth (He.ga K "Hall") "must_be" (spX_Hall_must_be K) [] E (tVar 0) (tCons (tVar 1) tNil))) (tSeq (tDrop (tMeth (He.ga K "Hall") "must" (spX_Hall_must K) [] E (tVar 0) (tCons (tOp (rIxL K) (tFld K (tVar 0) "busy") (tVar 1)) tNil))) (tSeq tNever (tSeq tNever tNever))))
def tX_Hall_back (K : PySem.W.Frag) (E : XK) : TS :=
  (tSeq (tDrop (tMeth (He.ga K "Hall") "must_be_two" (spX_Hall_must_be_two K) [] E (tVar 0) (tCons (tVar 1) (tCons (tVar 2) tNil)))) (tSeq (tDrop (tMeth (He.ga K "Hall") "must" (spX_Hall_must K) [] E (tVar 0) (tCons (tOp rGtI (tMeth (He.ga K "Hall") "receipts" (sp_Hall_receipts K) [] E0 (tVar 0) (tCons (tVar 1) (tCons (tVar 2) tNil))) (tC (.int 0))) tNil))) (tSeq tNever tNever)))
def tX_Hall_home (K : PySem.W.Frag) (E : XK) : TS :=
  (tSeq (tDrop (tMeth (He.ga K "Hall") "must_be" (spX_Hall_must_be K) [] E (tVar 0) (tCons (tVar 1) tNil))) (tSeq (tIfS (tTest (tOp rEq (tVar 1) (tC (.int 0)))) (tRs (He.ga K "NoHand") E) tNext) (tSeq (tDrop (tMeth (He.ga K "Hall") "must" (spX_Hall_must K) [] E (tVar 0) (tCons (tOp rGtI (tCB (rLenS K) (tCons (tOp (rIxL K) (tFld K (tFld K (tVar 0) "scales") "homeward") (tVar 1)) tNil)) (tC (.int 0))) tNil))) tNever)))
def tX_Hall_pass_on (K : PySem.W.Frag) (E : XK) : TS :=
  (tSeq (tDrop (tMeth (He.ga K "Hall") "must" (spX_Hall_must K) [] E (tVar 0) (tCons (tNotV (tOp (rIxL K) (tFld K (tVar 0) "busy") (tFld K (tFld K (tVar 0) "ring") "place"))) tNil))) tNever)
abbrev N_l_ask_one : List Str := ["_law_hall", "_law_way", "_law_one"]
def tX_l_ask_one (K : PySem.W.Frag) (E : XK) : TS :=
  (tSeq (tIfS (tTest (tOp rEq (tVar 1) (tC (.int 6)))) (tRet (tMeth (He.ga K "Hall") "rest" (spX_Hall_rest K) [] E (tVar 0) (tCons (tVar 2) tNil))) tNext) (tSeq (tIfS (tTest (tOp rEq (tVar 1) (tC (.int 7)))) (tRet (tMeth (He.ga K "Hall") "home" (spX_Hall_home K) [] E (tVar 0) (tCons (tVar 2) tNil))) tNext) (tSeq (tIfS (tTest (tOp rEq (tVar 1) (tC (.int 8)))) (tRet (tMeth (He.ga K "Hall") "open_of" (spX_Hall_open_of K) [] E (tVar 0) (tCons (tVar 2) tNil))) tNext) (tSeq (tIfS (tTest (tOp rEq (tVar 1) (tC (.int 9)))) (tRet (tMeth (He.ga K "Hall") "above" (spX_Hall_above K) [] E (tVar 0) (tCons (tVar 2) tNil))) tNext) (tSeq (tIfS (tTest (tOp rEq (tVar 1) (tC (.int 10)))) (tRet (tMeth (He.ga K "Hall") "weight_of" (spX_Hall_weight_of K) [] E (tVar 0) (tCons (tVar 2) tNil))) tNext) (tSeq (tIfS (tTest (tOp rEq (tVar 1) (tC (.int 11)))) (tRet (tMeth (He.ga K "Hall") "weights_home" (spX_Hall_weights_home K) [] E (tVar 0) (tCons (tVar 2) tNil))) tNext) (tSeq (tIfS (tTest (tOp rEq (tVar 1) (tC (.int 12)))) (tRet (tMeth (He.ga K "Hall") "count_of" (spX_Hall_count_of K) [] E (tVar 0) (tCons (tVar 2) tNil))) tNext) (tRet (tMeth (He.ga K "Hall") "colour_of" (spX_Hall_colour_of K) [] E (tVar 0) (tCons (tVar 2) tNil))))))))))
abbrev N_l_ask : List Str := ["_law_hall", "_law_way", "_law_one", "_law_other"]
def tX_l_ask (K : PySem.W.Frag) (E : XK) : TS :=
  (tSeq (tIfS (tTest (tOp rEq (tVar 1) (tC (.int 0)))) (tRet (tMeth (He.ga K "Hall") "send" (spX_Hall_send K) [] E (tVar 0) (tCons (tVar 2) (tCons (tVar 3) tNil)))) tNext) (tSeq (tIfS (tTest (tOp rEq (tVar 1) (tC (.int 1)))) (tRet (tMeth (He.ga K "Hall") "take" (spX_Hall_take K) [] E (tVar 0) (tCons (tVar 2) (tCons (tVar 3) tNil)))) tNext) (tSeq (tIfS (tTest (tOp rEq (tVar 1) (tC (.int 2)))) (tRet (tMeth (He.ga K "Hall") "back" (spX_Hall_back K) [] E (tVar 0) (tCons (tVar 2) (tCons (tVar 3) tNil)))) tNext) (tSeq (tIfS (tTest (tOp rEq (tVar 1) (tC (.int 3)))) (tRet (tMeth (He.ga K "Hall") "works" (spX_Hall_works K) [] E (tVar 0) (tCons (tVar 2) (tCons (tVar 3) tNil)))) tNext) (tSeq (tIfS (tTest (tOp rEq (tVar 1) (tC (.int 4)))) (tRet (tMeth (He.ga K "Hall") "receipts" (spX_Hall_receipts K) [] E (tVar 0) (tCons (tVar 2) (tCons (tVar 3) tNil)))) tNext) (tSeq (tIfS (tTest (tOp rEq (tVar 1) (tC (.int 5)))) (tRet (tMeth (He.ga K "Hall") "weights_on" (spX_Hall_weights_on K) [] E (tVar 0) (tCons (tVar 2) (tCons (tVar 3) tNil)))) tNext) (tRet (tCall (spX_l_ask_one K) [] E (tCons (tVar 0) (tCons (tVar 1) (tCons (tVar 2) tNil)))))))))))
end QH

/-! Law k04: what is refused. -/
namespace QH
open PySem PySem.Spec PyProof.Rows L2 Evl
section
variable {K : PySem.W.Frag} {Z : Addr → Prop} {σ : L2.St} {H H' : Hp} {ta tb tc te tv : TE} {t u : TT} {x y z v : V} {a C dx p c : Addr} {A : Ad} {s : S} {D : Ends} {w : Wt} {P : V → Hp → Prop} {E : XK} {Q : VK} {i j : Int}
theorem in1_nat {a : Nat} (h : a < s.n) : In1 s a := ⟨by omega, by omega⟩
theorem in2_two {a b : Nat} (h : Two s.n a b) : In2 s a b := ⟨in1_nat h.1, in1_nat h.2.1, by have := h.2.2; omega⟩
theorem x_be (h : HallAt K Z H A s) (ho : Ev ta σ H (.ref A.p)) (hi : Ev tb σ H (.int i)) (k1 : In1 s i → ∀ H1, Ex H H1 → D.nx σ H1) (k2 : ¬ In1 s i → ∀ H1, Ex H H1 → E (.ref (He.ga K "NoHand")) none H1) :
    tDrop (tMeth (He.ga K "Hall") "must_be" (spX_Hall_must_be K) [] E ta (tCons tb tNil)) D σ H :=
  ho H (Ex.refl H) _ fun H1 e1 => ⟨A.p, A.dx, _, rfl, e1 _ _ h.p, by kernel_rfl, (ea_cons hi ea_nil : EvA (tCons tb tNil) σ H [.int i]) H1 e1 _ fun H2 e2 => ⟨A, s, Z, i, rfl, h.mono (e1.trans e2), fun b H3 e3 => k1 b H3 (e1.trans (e2.trans e3)), fun b H3 e3 => k2 b H3 (e1.trans (e2.trans e3))⟩⟩
theorem x_be2 (h : HallAt K Z H A s) (ho : Ev ta σ H (.ref A.p)) (hi : Ev tb σ H (.int i)) (hj : Ev tc σ H (.int j)) (k1 : In2 s i j → ∀ H1, Ex H H1 → D.nx σ H1) (k2 : ¬ In2 s i j → ∀ H1, Ex H H1 → E (.ref (He.ga K "NoHand")) none H1) :
    tDrop (tMeth (He.ga K "Hall") "must_be_two" (spX_Hall_must_be_two K) [] E ta (tCons tb (tCons tc tNil))) D σ H :=
  ho H (Ex.refl H) _ fun H1 e1 => ⟨A.p, A.dx, _, rfl, e1 _ _ h.p, by kernel_rfl, (ea_cons hi (ea_cons hj ea_nil) : EvA (tCons tb (tCons tc tNil)) σ H [.int i, .int j]) H1 e1 _ fun H2 e2 => ⟨A, s, Z, i, j, rfl, h.mono (e1.trans e2), fun b H3 e3 => k1 b H3 (e1.trans (e2.trans e3)), fun b H3 e3 => k2 b H3 (e1.trans (e2.trans e3))⟩⟩
theorem x_must (h : HallAt K Z H A s) (ho : Ev ta σ H (.ref A.p)) (hb : Ev tb σ H (.bl false)) (k : ∀ H1, Ex H H1 → E (.ref (He.ga K "NotNow")) none H1) :
    tDrop (tMeth (He.ga K "Hall") "must" (spX_Hall_must K) [] E ta (tCons tb tNil)) D σ H :=
  ho H (Ex.refl H) _ fun H1 e1 => ⟨A.p, A.dx, _, rfl, e1 _ _ h.p, by kernel_rfl, (ea_cons hb ea_nil : EvA (tCons tb tNil) σ H [.bl false]) H1 e1 _ fun H2 e2 => ⟨.ref A.p, rfl, fun H3 e3 => k H3 (e1.trans (e2.trans e3))⟩⟩
theorem x_m1 {m : Str} {bad : S → Int → Str → Prop} {c : Str} (hm : (hallF s.n A.busy A.rows A.tree A.sc A.ring).lookup m = none) (h : HallAt K Z H A s) (ho : Ev ta σ H (.ref A.p)) (hi : Ev tb σ H (.int i)) (p : bad s i c) (k : ∀ H1, Ex H H1 → E (.ref (He.ga K c)) none H1) :
    tMeth (He.ga K "Hall") m (spR1 K bad) [] E ta (tCons tb tNil) σ H Q :=
  ho H (Ex.refl H) _ fun H1 e1 => ⟨A.p, A.dx, _, rfl, e1 _ _ h.p, hm, (ea_cons hi ea_nil : EvA (tCons tb tNil) σ H [.int i]) H1 e1 _ fun H2 e2 => ⟨A, s, Z, i, c, rfl, h.mono (e1.trans e2), p, fun H3 e3 => k H3 (e1.trans (e2.trans e3))⟩⟩
theorem x_m2 {m : Str} {bad : S → Int → Int → Str → Prop} {c : Str} (hm : (hallF s.n A.busy A.rows A.tree A.sc A.ring).lookup m = none) (h : HallAt K Z H A s) (ho : Ev ta σ H (.ref A.p)) (hi : Ev tb σ H (.int i)) (hj : Ev tc σ H (.int j)) (p : bad s i j c) (k : ∀ H1, Ex H H1 → E (.ref (He.ga K c)) none H1) :
    tMeth (He.ga K "Hall") m (spR2 K bad) [] E ta (tCons tb (tCons tc tNil)) σ H Q :=
  ho H (Ex.refl H) _ fun H1 e1 => ⟨A.p, A.dx, _, rfl, e1 _ _ h.p, hm, (ea_cons hi (ea_cons hj ea_nil) : EvA (tCons tb (tCons tc tNil)) σ H [.int i, .int j]) H1 e1 _ fun H2 e2 => ⟨A, s, Z, i, j, c, rfl, h.mono (e1.trans e2), p, fun H3 e3 => k H3 (e1.trans (e2.trans e3))⟩⟩
theorem purX_Hall_must_be (T : TxtK K) : ∀ vs H Q E, spX_Hall_must_be K vs H Q E → tX_Hall_must_be K E { nx := fun _ H' => Q .non H', rt := Q } (start N_Hall_must_be vs) H := by
  rintro vs H Q E ⟨A, s, Z, i, rfl, h, k1, k2⟩
  show tX_Hall_must_be K E _ [some (.ref A.p), some (.int i)] H
  unfold tX_Hall_must_be
  refine s_ifB (et_not (et_test (ev_chain ev_c (ev_var rfl) (ev_Hall_many T h (ev_var rfl))))) (fun b H1 e1 => ?_) (fun b H1 e1 => ?_)
  · refine k2 (fun z => ?_) H1 e1
    rw [decide_eq_true z.1, decide_eq_true z.2] at b
    cases b
  · refine k1 ?_ H1 e1
    have b : (decide (0 ≤ i) && decide (i < (s.n : Int))) = true := by simpa using b
    rw [Bool.and_eq_true, decide_eq_true_eq, decide_eq_true_eq] at b
    exact b
theorem purX_Hall_must_be_two (T : TxtK K) : ∀ vs H Q E, spX_Hall_must_be_two K vs H Q E → tX_Hall_must_be_two K E { nx := fun _ H' => Q .non H', rt := Q } (start N_Hall_must_be_two vs) H := by
  rintro vs H Q E ⟨A, s, Z, i, j, rfl, h, k1, k2⟩
  show tX_Hall_must_be_two K E _ [some (.ref A.p), some (.int i), some (.int j)] H
  unfold tX_Hall_must_be_two
  refine x_be h (ev_var rfl) (ev_var rfl) (fun b1 H1 e1 => ?_) (fun b1 H1 e1 => k2 (fun z => b1 z.1) H1 e1)
  refine x_be (h.mono e1) (ev_var rfl) (ev_var rfl) (fun b2 H2 e2 => ?_) (fun b2 H2 e2 => k2 (fun z => b2 z.2.1) H2 (e1.trans e2))
  refine s_ifB (et_test (ev_eqI (ev_var rfl) (ev_var rfl))) (fun b H3 e3 => ?_) (fun b H3 e3 => ?_)
  · exact k2 (fun z => z.2.2 (of_decide_eq_true b)) H3 (e1.trans (e2.trans e3))
  · exact k1 ⟨b1, b2, of_decide_eq_false b⟩ H3 (e1.trans (e2.trans e3))
theorem purX_Hall_must (T : TxtK K) : ∀ vs H Q E, spX_Hall_must K vs H Q E → tX_Hall_must K E { nx := fun _ H' => Q .non H', rt := Q } (start N_Hall_must vs) H := by
  rintro vs H Q E ⟨v, rfl, k⟩
  show tX_Hall_must K E _ [some v, some (.bl false)] H
  unfold tX_Hall_must
  refine s_ifB (et_not (et_B (ev_var rfl))) (fun b H1 e1 => k H1 e1) (fun b H1 e1 => ?_)
  cases b
/-- two hands, one statement reached -/
theorem x_two {rest : TS} (h : HallAt K Z H A s) {f : S → Nat → Nat → Prop} {c : Str} (bad : bad2 f s i j c) (ho : Ev ta σ H (.ref A.p)) (hi : Ev tb σ H (.int i)) (hj : Ev tc σ H (.int j)) (k : ∀ H1, Ex H H1 → E (.ref (He.ga K c)) none H1)
    (k2 : ∀ (a b : Nat), i = a → j = b → c = "NotNow" → Two s.n a b → f s a b → ∀ H1, Ex H H1 → rest D σ H1) : tSeq (tDrop (tMeth (He.ga K "Hall") "must_be_two" (spX_Hall_must_be_two K) [] E ta (tCons tb (tCons tc tNil)))) rest D σ H := by
  refine x_be2 (D := { D with nx := rest D }) h ho hi hj (fun b H1 e1 => ?_) (fun b H1 e1 => ?_)
  · rcases bad with ⟨_, nb⟩ | ⟨ec, a, b', ei, ej, two, hf⟩
    · exact absurd b nb
    · exact k2 a b' ei ej ec two hf H1 e1
  · rcases bad with ⟨rfl, _⟩ | ⟨_, a, b', rfl, rfl, two, _⟩
    · exact k H1 e1
    · exact absurd (in2_two two) b
theorem x_one {rest : TS} (h : HallAt K Z H A s) {f g : S → Nat → Prop} {c : Str} (bad : bad1 g f s i c) (ho : Ev ta σ H (.ref A.p)) (hi : Ev tb σ H (.int i)) (k : ∀ H1, Ex H H1 → E (.ref (He.ga K c)) none H1)
    (k2 : ∀ (a : Nat), i = a → a < s.n → ((c = "NoHand" ∧ g s a) ∨ (c = "NotNow" ∧ f s a)) → ∀ H1, Ex H H1 → rest D σ H1) : tSeq (tDrop (tMeth (He.ga K "Hall") "must_be" (spX_Hall_must_be K) [] E ta (tCons tb tNil))) rest D σ H := by
  refine x_be (D := { D with nx := rest D }) h ho hi (fun b H1 e1 => ?_) (fun b H1 e1 => ?_)
  · rcases bad with ⟨ec, nb | ⟨a, ei, la, hg⟩⟩ | ⟨ec, a, ei, la, hf⟩
    · exact absurd b nb
    · exact k2 a ei la (Or.inl ⟨ec, hg⟩) H1 e1
    · exact k2 a ei la (Or.inr ⟨ec, hf⟩) H1 e1
  · rcases bad with ⟨rfl, nb | ⟨a, rfl, la, hg⟩⟩ | ⟨_, a, rfl, la, _⟩
    · exact k H1 e1
    · exact absurd (in1_nat la) b
    · exact absurd (in1_nat la) b
theorem purX_Hall_works (T : TxtK K) : ∀ vs H Q E, spX_Hall_works K vs H Q E → tX_Hall_works K E { nx := fun _ H' => Q .non H', rt := Q } (start N_Hall_works vs) H := by
  rintro vs H Q E ⟨A, s, Z, i, j, c, rfl, h, bad, k⟩
  exact x_two (σ := [some (.ref A.p), some (.int i), some (.int j)]) h bad (ev_var rfl) (ev_var rfl) (ev_var rfl) k fun a b _ _ _ _ z => z.elim
theorem purX_Hall_receipts (T : TxtK K) : ∀ vs H Q E, spX_Hall_receipts K vs H Q E → tX_Hall_receipts K E { nx := fun _ H' => Q .non H', rt := Q } (start N_Hall_receipts vs) H := by
  rintro vs H Q E ⟨A, s, Z, i, j, c, rfl, h, bad, k⟩
  exact x_two (σ := [some (.ref A.p), some (.int i), some (.int j)]) h bad (ev_var rfl) (ev_var rfl) (ev_var rfl) k fun a b _ _ _ _ z => z.elim
theorem purX_Hall_weights_on (T : TxtK K) : ∀ vs H Q E, spX_Hall_weights_on K vs H Q E → tX_Hall_weights_on K E { nx := fun _ H' => Q .non H', rt := Q } (start N_Hall_weights_on vs) H := by
  rintro vs H Q E ⟨A, s, Z, i, j, c, rfl, h, bad, k⟩
  exact x_two (σ := [some (.ref A.p), some (.int i), some (.int j)]) h bad (ev_var rfl) (ev_var rfl) (ev_var rfl) k fun a b _ _ _ _ z => z.elim
theorem purX_Hall_open_of (T : TxtK K) : ∀ vs H Q E, spX_Hall_open_of K vs H Q E → tX_Hall_open_of K E { nx := fun _ H' => Q .non H', rt := Q } (start N_Hall_open_of vs) H := by
  rintro vs H Q E ⟨A, s, Z, i, c, rfl, h, bad, k⟩
  exact x_one (σ := [some (.ref A.p), some (.int i)]) h bad (ev_var rfl) (ev_var rfl) k fun a _ _ z => z.elim (fun z => z.2.elim) fun z => z.2.elim
theorem purX_Hall_above (T : TxtK K) : ∀ vs H Q E, spX_Hall_above K vs H Q E → tX_Hall_above K E { nx := fun _ H' => Q .non H', rt := Q } (start N_Hall_above vs) H := by
  rintro vs H Q E ⟨A, s, Z, i, c, rfl, h, bad, k⟩
  exact x_one (σ := [some (.ref A.p), some (.int i)]) h bad (ev_var rfl) (ev_var rfl) k fun a _ _ z => z.elim (fun z => z.2.elim) fun z => z.2.elim
theorem purX_Hall_weight_of (T : TxtK K) : ∀ vs H Q E, spX_Hall_weight_of K vs H Q E → tX_Hall_weight_of K E { nx := fun _ H' => Q .non H', rt := Q } (start N_Hall_weight_of vs) H := by
  rintro vs H Q E ⟨A, s, Z, i, c, rfl, h, bad, k⟩
  exact x_one (σ := [some (.ref A.p), some (.int i)]) h bad (ev_var rfl) (ev_var rfl) k fun a _ _ z => z.elim (fun z => z.2.elim) fun z => z.2.elim
theorem purX_Hall_weights_home (T : TxtK K) : ∀ vs H Q E, spX_Hall_weights_home K vs H Q E → tX_Hall_weights_home K E { nx := fun _ H' => Q .non H', rt := Q } (start N_Hall_weights_home vs) H := by
  rintro vs H Q E ⟨A, s, Z, i, c, rfl, h, bad, k⟩
  exact x_one (σ := [some (.ref A.p), some (.int i)]) h bad (ev_var rfl) (ev_var rfl) k fun a _ _ z => z.elim (fun z => z.2.elim) fun z => z.2.elim
theorem purX_Hall_count_of (T : TxtK K) : ∀ vs H Q E, spX_Hall_count_of K vs H Q E → tX_Hall_count_of K E { nx := fun _ H' => Q .non H', rt := Q } (start N_Hall_count_of vs) H := by
  rintro vs H Q E ⟨A, s, Z, i, c, rfl, h, bad, k⟩
  exact x_one (σ := [some (.ref A.p), some (.int i)]) h bad (ev_var rfl) (ev_var rfl) k fun a _ _ z => z.elim (fun z => z.2.elim) fun z => z.2.elim
theorem purX_Hall_colour_of (T : TxtK K) : ∀ vs H Q E, spX_Hall_colour_of K vs H Q E → tX_Hall_colour_of K E { nx := fun _ H' => Q .non H', rt := Q } (start N_Hall_colour_of vs) H := by
  rintro vs H Q E ⟨A, s, Z, i, c, rfl, h, bad, k⟩
  exact x_one (σ := [some (.ref A.p), some (.int i)]) h bad (ev_var rfl) (ev_var rfl) k fun a _ _ z => z.elim (fun z => z.2.elim) fun z => z.2.elim
theorem purX_Hall_send (T : TxtK K) : ∀ vs H Q E, spX_Hall_send K vs H Q E → tX_Hall_send K E { nx := fun _ H' => Q .non H', rt := Q } (start N_Hall_send vs) H := by
  rintro vs H Q E ⟨A, s, Z, i, j, c, rfl, h, bad, k⟩
  refine x_two (σ := [some (.ref A.p), some (.int i), some (.int j)]) h bad (ev_var rfl) (ev_var rfl) (ev_var rfl) k ?_
  rintro a b rfl rfl rfl two hf H1 e1
  have h1 := h.mono e1
  exact x_must h1 (ev_var rfl) (ev_is (ev_at (i := a) (g := fun i => .bl (s.busy i)) (ev_Hall_busy T h1 (ev_var rfl)) h1.busy (ev_var rfl) two.1) (congrArg V.bl hf)) fun H2 e2 => k H2 (e1.trans e2)
theorem purX_Hall_take (T : TxtK K) : ∀ vs H Q E, spX_Hall_take K vs H Q E → tX_Hall_take K E { nx := fun _ H' => Q .non H', rt := Q } (start N_Hall_take vs) H := by
  rintro vs H Q E ⟨A, s, Z, i, j, c, rfl, h, bad, k⟩
  refine x_two (σ := [some (.ref A.p), some (.int i), some (.int j)]) h bad (ev_var rfl) (ev_var rfl) (ev_var rfl) k ?_
  rintro a b rfl rfl rfl two hf H1 e1
  have h1 := h.mono e1
  have hf : s.rows a b = [] := hf
  have hlen : Ev (tCB (rLenS K) (tCons (tMeth (He.ga K "Hall") "row" (sp_Hall_row K) [] E0 (tVar 0) (tCons (tVar 1) (tCons (tVar 2) tNil))) tNil)) [some (.ref A.p), some (.int a), some (.int b)] H1 (.int 0) := fun H2 e2 Q' kk => u_cb1 ((evr_row h1 (ev_var rfl) (ev_var rfl) (ev_var rfl) two.1 two.2.1) H2 e2 _ (by
    rintro _ H3 e3 ⟨l, us, rfl, rl, hl, hw⟩
    have : us.length = 0 := by rw [hw.len, hf]; rfl
    refine ⟨l, us, rfl, Or.inl (sq_of hl), ?_⟩
    rw [this]
    exact kk H3 e3))
  exact x_must h1 (ev_var rfl) (ev_op hlen ev_c rv_gt) fun H2 e2 => k H2 (e1.trans e2)
theorem purX_Hall_back (T : TxtK K) : ∀ vs H Q E, spX_Hall_back K vs H Q E → tX_Hall_back K E { nx := fun _ H' => Q .non H', rt := Q } (start N_Hall_back vs) H := by
  rintro vs H Q E ⟨A, s, Z, i, j, c, rfl, h, bad, k⟩
  refine x_two (σ := [some (.ref A.p), some (.int i), some (.int j)]) h bad (ev_var rfl) (ev_var rfl) (ev_var rfl) k ?_
  rintro a b rfl rfl rfl two hf H1 e1
  have h1 := h.mono e1
  exact x_must h1 (ev_var rfl) (ev_is (ev_op (ev_receipts h1 (ev_var rfl) (ev_var rfl) (ev_var rfl) two) ev_c rv_gt) (congrArg V.bl (decide_eq_false hf))) fun H2 e2 => k H2 (e1.trans e2)
theorem purX_Hall_rest (T : TxtK K) : ∀ vs H Q E, spX_Hall_rest K vs H Q E → tX_Hall_rest K E { nx := fun _ H' => Q .non H', rt := Q } (start N_Hall_rest vs) H := by
  rintro vs H Q E ⟨A, s, Z, i, c, rfl, h, bad, k⟩
  refine x_one (σ := [some (.ref A.p), some (.int i)]) h bad (ev_var rfl) (ev_var rfl) k ?_
  rintro a rfl la (z | ⟨rfl, hf⟩) H1 e1
  · exact z.2.elim
  have h1 := h.mono e1
  exact x_must h1 (ev_var rfl) (ev_is (ev_at (i := a) (g := fun i => .bl (s.busy i)) (ev_Hall_busy T h1 (ev_var rfl)) h1.busy (ev_var rfl) la) (congrArg V.bl hf)) fun H2 e2 => k H2 (e1.trans e2)
theorem purX_Hall_home (T : TxtK K) : ∀ vs H Q E, spX_Hall_home K vs H Q E → tX_Hall_home K E { nx := fun _ H' => Q .non H', rt := Q } (start N_Hall_home vs) H := by
  rintro vs H Q E ⟨A, s, Z, i, c, rfl, h, bad, k⟩
  refine x_one (σ := [some (.ref A.p), some (.int i)]) h bad (ev_var rfl) (ev_var rfl) k ?_
  rintro a rfl la q H1 e1
  have h1 := h.mono e1
  refine s_if1 (et_test (ev_eqI (ev_var rfl) ev_c)) (fun b H2 e2 => ?_) (fun b H2 e2 => ?_)
  · have b := of_decide_eq_true b
    rcases q with ⟨rfl, _⟩ | ⟨rfl, h0, _⟩
    · exact k H2 (e1.trans e2)
    · omega
  · have b := of_decide_eq_false b
    rcases q with ⟨rfl, h0⟩ | ⟨rfl, h0, hf⟩
    · have h0 : a = 0 := h0
      omega
    · have h2 := h1.mono e2
      obtain ⟨vs, hl2, hw2⟩ := h2.hl a la
      refine x_must h2 (ev_var rfl) (ev_is (ev_op (ev_len (ev_at (i := a) (g := fun i => .ref (A.hl i)) (ev_Weights_homeward T h2 (ev_Hall_scales T h2 (ev_var rfl))) h2.hw (ev_var rfl) la) (sq_of hl2)) ev_c rv_gt) (congrArg V.bl (decide_eq_false ?_))) fun H3 e3 => k H3 (e1.trans (e2.trans e3))
      rw [hw2.len, hf]
      decide
theorem purX_Hall_pass_on (T : TxtK K) : ∀ vs H Q E, spX_Hall_pass_on K vs H Q E → tX_Hall_pass_on K E { nx := fun _ H' => Q .non H', rt := Q } (start N_Hall_pass_on vs) H := by
  rintro vs H Q E ⟨A, s, Z, c, rfl, h, ⟨rfl, lp, hb⟩, k⟩
  exact x_must (σ := [some (.ref A.p)]) h (ev_var rfl) (ev_is (ev_notV (ev_at (ev_Hall_busy T h (ev_var rfl)) h.busy (ev_Ring_place T h (ev_Hall_ring T h (ev_var rfl))) lp)) (by rw [hb]; rfl)) k
end
end QH

namespace QH
open PySem PySem.Spec PyProof.Rows L2 Evl
abbrev N_l_can : List Str := ["_law_hall", "_law_way", "_law_one", "_law_other"]
def t_l_can (K : PySem.W.Frag) : TS :=
  (tSeq (tIfS (tOr (tTest (tOp rEq (tVar 1) (tC (.int 0)))) (tTest (tOp rEq (tVar 1) (tC (.int 6))))) (tRet (tOp (rIn K false) (tVar 2) (tMeth (He.ga K "Hall") "working" (sp_Hall_working K) [] E0 (tVar 0) tNil))) tNext) (tSeq (tIfS (tTest (tOp rEq (tVar 1) (tC (.int 1)))) (tRet (tOp rGtI (tMeth (He.ga K "Hall") "works" (sp_Hall_works K) [] E0 (tVar 0) (tCons (tVar 2) (tCons (tVar 3) tNil))) (tC (.int 0)))) tNext) (tSeq (tIfS (tTest (tOp rEq (tVar 1) (tC (.int 2)))) (tRet (tOp rGtI (tMeth (He.ga K "Hall") "receipts" (sp_Hall_receipts K) [] E0 (tVar 0) (tCons (tVar 2) (tCons (tVar 3) tNil))) (tC (.int 0)))) tNext) (tRet (tOrV (tOp rNe (tVar 1) (tC (.int 7))) (tOp rGtI (tCB (rLenS K) (tCons (tMeth (He.ga K "Hall") "weights_home" (sp_Hall_weights_home K) [] E0 (tVar 0) (tCons (tVar 2) tNil)) tNil)) (tC (.int 0))))))))
abbrev N_law : List Str := ["_law_script", "_law_many_here", "_law_hall", "_law_before", "_law_far", "_law_bad", "_law_way", "_law_one", "_law_other"]
def t_law (K : PySem.W.Frag) : TS :=
  (tSeq (tAsg (tCall (sp_l_many K) [] E0 (tCons (tVar 0) tNil)) (gName 1)) (tSeq (tAsg (tMake (He.ga K "Hall") (sp_Hall_init K) [] E0 (tCons (tVar 1) tNil)) (gName 2)) (tSeq (tDrop (tCall (sp_l_play K) [] E0 (tCons (tVar 2) (tCons (tVar 1) (tCons (tSl (rSlL K) (tVar 0) (tPart (tC (.int 1))) (tPart (tC (.int 50)))) tNil))))) (tSeq (tAsg (tCall (sp_l_shown K) [] E0 (tCons (tVar 2) (tCons (tVar 1) tNil))) (gName 3)) (tSeq (tAsg (tOp rModI (tCall (sp_l_cell K) [] E0 (tCons (tVar 0) (tCons (tC (.int 50)) tNil))) (tOp rPowI (tC (.int 10)) (tC (.int 20)))) (gName 4)) (tSeq (tFor (iList K (tLst (tCons (tUn rNegI (tC (.int 1))) (tCons (tVar 1) (tCons (tOp rAddI (tVar 1) (tVar 4)) (tCons (tOp rSubI (tUn rNegI (tC (.int 1))) (tVar 4)) tNil)))))) (gName 5) (tFor (iRng1 (tCons (tC (.int 14)) tNil)) (gName 6) (tSeq (tIfS (tTest (tOp rNe (tCall (sp_l_said K) [] E0 (tCons (tVar 2) (tCons (tVar 6) (tCons (tVar 5) (tCons (tC (.int 0)) tNil))))) (tC (.str "no hand")))) (tRet (tC (.bl false))) tNext) (tSeq (tIfS (tAnd (tTest (tOp rLtI (tVar 6) (tC (.int 6)))) (tTest (tOp rNe (tCall (sp_l_said K) [] E0 (tCons (tVar 2) (tCons (tVar 6) (tCons (tC (.int 0)) (tCons (tVar 5) tNil))))) (tC (.str "no hand"))))) (tRet (tC (.bl false))) tNext) (tIfS (tAnd (tTest (tOp rLtI (tVar 6) (tC (.int 6)))) (tTest (tOp rNe (tCall (sp_l_said K) [] E0 (tCons (tVar 2) (tCons (tVar 6) (tCons (tC (.int 1)) (tCons (tC (.int 1)) tNil))))) (tC (.str "no hand"))))) (tRet (tC (.bl false))) tNext))))) (tSeq (tIfS (tTest (tOp rNe (tCall (sp_l_said K) [] E0 (tCons (tVar 2) (tCons (tC (.int 7)) (tCons (tC (.int 0)) (tCons (tC (.int 1)) tNil))))) (tC (.str "no hand")))) (tRet (tC (.bl false))) tNext) (tSeq (tFor (iList K (tCall (sp_l_roads K) [] E0 (tCons (tVar 1) tNil))) (gTup K 2 (gCons (gName 7) (gCons (gName 8) gNil))) (tFor (iList K (tLst (tCons (tC (.int 0)) (tCons (tC (.int 1)) (tCons (tC (.int 2)) (tCons (tC (.int 6)) (tCons (tC (.int 7)) tNil))))))) (gName 6) (tIfS (tAnd (tOr (tTest (tOp rLtI (tVar 6) (tC (.int 7)))) (tTest (tOp rGtI (tVar 7) (tC (.int 0))))) (tNot (tB (tCall (sp_l_can K) [] E0 (tCons (tVar 2) (tCons (tVar 6) (tCons (tVar 7) (tCons (tVar 8) tNil)))))))) (tIfS (tTest (tOp rNe (tCall (sp_l_said K) [] E0 (tCons (tVar 2) (tCons (tVar 6) (tCons (tVar 7) (tCons (tVar 8) tNil))))) (tC (.str "not now")))) (tRet (tC (.bl false))) tNext) tNext))) (tSeq (tIfS (tAnd (tTest (tOp (rIn K false) (tOp (rIxT K) (tMeth (He.ga K "Hall") "token" (sp_Hall_token K) [] E0 (tVar 2) tNil) (tC (.int 0))) (tMeth (He.ga K "Hall") "working" (sp_Hall_working K) [] E0 (tVar 2) tNil))) (tTest (tOp rNe (tCall (sp_l_said K) [] E0 (tCons (tVar 2) (tCons (tC (.int 14)) (tCons (tC (.int 0)) (tCons (tC (.int 0)) tNil))))) (tC (.str "not now"))))) (tRet (tC (.bl false))) tNext) (tRet (tOp (rEqD K) (tCall (sp_l_shown K) [] E0 (tCons (tVar 2) (tCons (tVar 1) tNil))) (tVar 3))))))))))))
end QH

/-! Law k04: asked by number, said, can. -/
namespace QH
open PySem PySem.Spec PyProof.Rows L2 Evl
abbrev N_l_said : List Str := ["_law_hall", "_law_way", "_law_one", "_law_other", "_law_told", "e"]
/-- isinstance(e, c) in the suite, e of the class that nh tells -/
def tIsE (K : PySem.W.Frag) (nh : Bool) (a : Addr) (c : V) : TE := tCB (rIsE K (He.ga K (exName nh)) a) (tCons (tVar 5) (tCons (tC c) tNil))
def tSuite (K : PySem.W.Frag) (nh : Bool) (a : Addr) : TS :=
  tSeq (tAsg (tC (.str "other")) (gName 4)) (tIfS (tAnd (tB (tIsE K nh a (.ty "ValueError"))) (tTest (tOp rNe (tIsE K nh a (.ref (He.ga K "NoHand"))) (tIsE K nh a (.ref (He.ga K "NotNow"))))))
    (tAsg (tOp (rIxL K) (tLst (tCons (tC (.str "not now")) (tCons (tC (.str "no hand")) tNil))) (tCB rInt1 (tCons (tIsE K nh a (.ref (He.ga K "NoHand"))) tNil))) (gName 4)) tNext)
def tsSaid (K : PySem.W.Frag) : Addr → Value → Option Addr → TS := fun a cls d D σ H => ∃ nh : Bool, (cls = .ref (He.ga K (exName nh)) ∧ d = none) ∧ tSuite K nh a D σ H
def wSaid (K : PySem.W.Frag) (D : Ends) : WX := wAs K (.ref (He.ga K "HallError")) 5 (tsSaid K) (fun _ _ _ _ => False) D
def tbSaid (K : PySem.W.Frag) (W : WX) : TS :=
  tIfS (tTest (tOp rEq (tVar 1) (tC (.int 14)))) (tDrop (tMethW (He.ga K "Hall") "pass_on" (spX_Hall_pass_on K) (WE W) (tVar 0))) (tDrop (tCallS (spX_l_ask K) (WE W) (tCons (tVar 0) (tCons (tVar 1) (tCons (tVar 2) (tCons (tVar 3) tNil))))))
def t_l_said (K : PySem.W.Frag) : TS :=
  tSeq (tAsg (tC (.str "none")) (gName 4)) (tSeq (fun D σ H => tbSaid K (wSaid K D) D σ H) (tRet (tVar 4)))
section
variable {K : PySem.W.Frag} {mg : Str → Option Value} {Z : Addr → Prop} {σ : L2.St} {H H' : Hp} {ta tb tc te tv : TE} {t u : TT} {x y z v : V} {a C dx p c : Addr} {A : Ad} {s : S} {D : Ends} {w : Wt} {P : V → Hp → Prop} {E : XK} {Q : VK} {i j : Int}
theorem x_if {tu rest : TS} {w : Nat} {k : Int} (hv : σ[1]? = some (some (.int w))) (h1 : (w : Int) = k → ∀ H1, Ex H H1 → tu { D with nx := rest D } σ H1) (h2 : (w : Int) ≠ k → ∀ H1, Ex H H1 → rest D σ H1) :
    tSeq (tIfS (tTest (tOp rEq (tVar 1) (tC (.int k)))) tu tNext) rest D σ H :=
  s_if1 (et_test (ev_eqI (ev_var hv) ev_c)) (fun b => h1 (of_decide_eq_true b)) (fun b => h2 (of_decide_eq_false b))
theorem purX_l_ask_one (T : TxtK K) : ∀ vs H Q E, spX_l_ask_one K vs H Q E → tX_l_ask_one K E { nx := fun _ H' => Q .non H', rt := Q } (start N_l_ask_one vs) H := by
  rintro vs H Q E ⟨A, s, Z, way, i, c, rfl, h, w6, w13, bad, k⟩
  show tX_l_ask_one K E _ [some (.ref A.p), some (.int way), some (.int i)] H
  unfold tX_l_ask_one
  refine x_if rfl (fun e H1 e1 => ?_) fun n6 H1 e1 => ?_
  · obtain rfl : way = 6 := by omega
    exact u_ret (x_m1 (bad := badRest) (by kernel_rfl) (h.mono e1) (ev_var rfl) (ev_var rfl) bad fun H2 e2 => k H2 (e1.trans e2))
  have h := h.mono e1
  have k := fun H2 e2 => k H2 (e1.trans e2)
  refine x_if rfl (fun e H1 e1 => ?_) fun n7 H1 e1 => ?_
  · obtain rfl : way = 7 := by omega
    exact u_ret (x_m1 (bad := badHome) (by kernel_rfl) (h.mono e1) (ev_var rfl) (ev_var rfl) bad fun H2 e2 => k H2 (e1.trans e2))
  have h := h.mono e1
  have k := fun H2 e2 => k H2 (e1.trans e2)
  refine x_if rfl (fun e H1 e1 => ?_) fun n8 H1 e1 => ?_
  · obtain rfl : way = 8 := by omega
    exact u_ret (x_m1 (bad := bad1 no1 no1) (by kernel_rfl) (h.mono e1) (ev_var rfl) (ev_var rfl) bad fun H2 e2 => k H2 (e1.trans e2))
  have h := h.mono e1
  have k := fun H2 e2 => k H2 (e1.trans e2)
  refine x_if rfl (fun e H1 e1 => ?_) fun n9 H1 e1 => ?_
  · obtain rfl : way = 9 := by omega
    exact u_ret (x_m1 (bad := bad1 no1 no1) (by kernel_rfl) (h.mono e1) (ev_var rfl) (ev_var rfl) bad fun H2 e2 => k H2 (e1.trans e2))
  have h := h.mono e1
  have k := fun H2 e2 => k H2 (e1.trans e2)
  refine x_if rfl (fun e H1 e1 => ?_) fun n10 H1 e1 => ?_
  · obtain rfl : way = 10 := by omega
    exact u_ret (x_m1 (bad := bad1 no1 no1) (by kernel_rfl) (h.mono e1) (ev_var rfl) (ev_var rfl) bad fun H2 e2 => k H2 (e1.trans e2))
  have h := h.mono e1
  have k := fun H2 e2 => k H2 (e1.trans e2)
  refine x_if rfl (fun e H1 e1 => ?_) fun n11 H1 e1 => ?_
  · obtain rfl : way = 11 := by omega
    exact u_ret (x_m1 (bad := bad1 no1 no1) (by kernel_rfl) (h.mono e1) (ev_var rfl) (ev_var rfl) bad fun H2 e2 => k H2 (e1.trans e2))
  have h := h.mono e1
  have k := fun H2 e2 => k H2 (e1.trans e2)
  refine x_if rfl (fun e H1 e1 => ?_) fun n12 H1 e1 => ?_
  · obtain rfl : way = 12 := by omega
    exact u_ret (x_m1 (bad := bad1 no1 no1) (by kernel_rfl) (h.mono e1) (ev_var rfl) (ev_var rfl) bad fun H2 e2 => k H2 (e1.trans e2))
  have h := h.mono e1
  have k := fun H2 e2 => k H2 (e1.trans e2)
  obtain rfl : way = 13 := by omega
  exact u_ret (x_m1 (bad := bad1 no1 no1) (by kernel_rfl) h (ev_var rfl) (ev_var rfl) bad k)
theorem purX_l_ask (T : TxtK K) : ∀ vs H Q E, spX_l_ask K vs H Q E → tX_l_ask K E { nx := fun _ H' => Q .non H', rt := Q } (start N_l_ask vs) H := by
  rintro vs H Q E ⟨A, s, Z, way, i, j, c, rfl, h, w13, bad, k⟩
  show tX_l_ask K E _ [some (.ref A.p), some (.int way), some (.int i), some (.int j)] H
  unfold tX_l_ask
  refine x_if rfl (fun e H1 e1 => ?_) fun n0 H1 e1 => ?_
  · obtain rfl : way = 0 := by omega
    exact u_ret (x_m2 (bad := badSend) (by kernel_rfl) (h.mono e1) (ev_var rfl) (ev_var rfl) (ev_var rfl) bad fun H2 e2 => k H2 (e1.trans e2))
  have h := h.mono e1
  have k := fun H2 e2 => k H2 (e1.trans e2)
  refine x_if rfl (fun e H1 e1 => ?_) fun n1 H1 e1 => ?_
  · obtain rfl : way = 1 := by omega
    exact u_ret (x_m2 (bad := badTake) (by kernel_rfl) (h.mono e1) (ev_var rfl) (ev_var rfl) (ev_var rfl) bad fun H2 e2 => k H2 (e1.trans e2))
  have h := h.mono e1
  have k := fun H2 e2 => k H2 (e1.trans e2)
  refine x_if rfl (fun e H1 e1 => ?_) fun n2 H1 e1 => ?_
  · obtain rfl : way = 2 := by omega
    exact u_ret (x_m2 (bad := badBack) (by kernel_rfl) (h.mono e1) (ev_var rfl) (ev_var rfl) (ev_var rfl) bad fun H2 e2 => k H2 (e1.trans e2))
  have h := h.mono e1
  have k := fun H2 e2 => k H2 (e1.trans e2)
  refine x_if rfl (fun e H1 e1 => ?_) fun n3 H1 e1 => ?_
  · obtain rfl : way = 3 := by omega
    exact u_ret (x_m2 (bad := bad2 no2) (by kernel_rfl) (h.mono e1) (ev_var rfl) (ev_var rfl) (ev_var rfl) bad fun H2 e2 => k H2 (e1.trans e2))
  have h := h.mono e1
  have k := fun H2 e2 => k H2 (e1.trans e2)
  refine x_if rfl (fun e H1 e1 => ?_) fun n4 H1 e1 => ?_
  · obtain rfl : way = 4 := by omega
    exact u_ret (x_m2 (bad := bad2 no2) (by kernel_rfl) (h.mono e1) (ev_var rfl) (ev_var rfl) (ev_var rfl) bad fun H2 e2 => k H2 (e1.trans e2))
  have h := h.mono e1
  have k := fun H2 e2 => k H2 (e1.trans e2)
  refine x_if rfl (fun e H1 e1 => ?_) fun n5 H1 e1 => ?_
  · obtain rfl : way = 5 := by omega
    exact u_ret (x_m2 (bad := bad2 no2) (by kernel_rfl) (h.mono e1) (ev_var rfl) (ev_var rfl) (ev_var rfl) bad fun H2 e2 => k H2 (e1.trans e2))
  have h := h.mono e1
  have k := fun H2 e2 => k H2 (e1.trans e2)
  have w6 : 6 ≤ way := by omega
  have bad : askBad1 s way i c := by
    obtain ⟨m, rfl⟩ : ∃ m, way = m + 6 := ⟨way - 6, by omega⟩
    exact bad
  exact u_ret ((ea_cons (ev_var rfl) (ea_cons (ev_var rfl) (ea_cons (ev_var rfl) ea_nil)) : EvA (tCons (tVar 0) (tCons (tVar 1) (tCons (tVar 2) tNil))) [some (.ref A.p), some (.int way), some (.int i), some (.int j)] _ [.ref A.p, .int way, .int i]) _ (Ex.refl _) _ fun H2 e2 => ⟨A, s, Z, way, i, c, rfl, h.mono e2, w6, w13, bad, fun H3 e3 => k H3 (e2.trans e3)⟩)
theorem ev_isE {nh b : Bool} {cc : V} {cv : Value} (h : Ev (tVar 5) σ H (.ref a)) (hc : ∀ u, RelV cc u → u = cv) (hk : PySem.W.kitOne K (.ref (He.ga K (exName nh))) cv = some b) : Ev (tIsE K nh a cc) σ H (.bl b) := fun H1 e Q k => by
  show (tCons (tVar 5) (tCons (tC cc) tNil)) σ H1 fun vs H2 => rIsE K (He.ga K (exName nh)) a vs H2 Q
  exact (ea_cons h (ea_cons ev_c ea_nil) : EvA (tCons (tVar 5) (tCons (tC cc) tNil)) σ H [.ref a, cc]) H1 e _ fun H2 e2 => ⟨cc, cv, b, rfl, hc, hk, k H2 e2⟩
theorem ev_intB {b : Bool} (h : Ev te σ H (.bl b)) : Ev (tCB rInt1 (tCons te tNil)) σ H (.int (if b then 1 else 0)) := fun H1 e Q k => u_cb1 (h H1 e _ fun H2 e2 => Or.inr ⟨b, rfl, k H2 e2⟩)
theorem TxX.of (TX : TxX K mg) (nh : Bool) : ExcT K mg (exName nh) := by
  cases nh
  · exact TX.NotNow
  · exact TX.NoHand
theorem name_nh (nh : Bool) : decide (exName nh = "NoHand") = nh := by cases nh <;> decide +kernel
theorem name_nn (nh : Bool) : decide (exName nh = "NotNow") = !nh := by cases nh <;> decide +kernel
theorem pur_suite (TX : TxX K mg) {nh : Bool} {s0 s1 s2 s3 s4 : Option V} (k : ∀ H1, Ex H H1 → D.nx [s0, s1, s2, s3, some (.str (word nh)), some (.ref a)] H1) : tSuite K nh a D [s0, s1, s2, s3, s4, some (.ref a)] H := by
  have X := TX.of nh
  unfold tSuite
  refine q_asg ev_c fun H1 e1 => ?_
  show (tIfS _ _ _) _ [s0, s1, s2, s3, some (.str "other"), some (.ref a)] H1
  have i1 : ∀ H2, Ev (tIsE K nh a (.ref (He.ga K "NoHand"))) [s0, s1, s2, s3, some (.str "other"), some (.ref a)] H2 (.bl nh) := fun H2 => ev_isE (ev_var rfl) (fun u h => h) (by rw [X.nh, name_nh])
  have i2 : ∀ H2, Ev (tIsE K nh a (.ref (He.ga K "NotNow"))) [s0, s1, s2, s3, some (.str "other"), some (.ref a)] H2 (.bl (!nh)) := fun H2 => ev_isE (ev_var rfl) (fun u h => h) (by rw [X.nn, name_nn])
  refine s_if (b := true) (et_is (et_and (a := true) (b := true) (et_B (ev_isE (cv := .type "ValueError") (ev_var rfl) (fun u h => h) X.ve)) (fun _ => et_test (ev_is (ev_op (i1 H1) (i2 H1) (rv_ne rfl)) (by cases nh <;> decide)))) rfl) (fun _ H2 e2 => ?_) (fun b => by cases b)
  have hx : Ev (tOp (rIxL K) (tLst (tCons (tC (.str "not now")) (tCons (tC (.str "no hand")) tNil))) (tCB rInt1 (tCons (tIsE K nh a (.ref (He.ga K "NoHand"))) tNil))) [s0, s1, s2, s3, some (.str "other"), some (.ref a)] H2 (.str (word nh)) := fun H3 e3 Q' kk =>
    (el_lst (ea_cons ev_c (ea_cons ev_c ea_nil)) (by show 2 ≤ 100000; decide) : EvL (tLst (tCons (tC (.str "not now")) (tCons (tC (.str "no hand")) tNil))) [s0, s1, s2, s3, some (.str "other"), some (.ref a)] H2 [.str "not now", .str "no hand"]) H3 e3 _ fun l H4 nl e4 hl => (ev_intB (i1 H4)) H4 (Ex.refl H4) _ fun H5 e5 => ⟨l, [.str "not now", .str "no hand"], (if nh then 1 else 0 : Int), .str (word nh), rfl, rfl, sq_of (e5 _ _ hl), by cases nh <;> rfl, kk H5 (e4.trans e5)⟩
  exact s_asg hx fun H3 e3 => k H3 (e1.trans (e2.trans e3))
theorem pur_l_said (T : TxtK K) (TX : TxX K mg) : ∀ vs H Q E, sp_l_said K vs H Q E → t_l_said K { nx := fun _ H' => Q .non H', rt := Q } (start N_l_said vs) H := by
  rintro vs H Q E ⟨A, s, Z, way, i, j, nh, rfl, h, hb, k⟩
  show t_l_said K _ [some (.ref A.p), some (.int way), some (.int i), some (.int j), none, none] H
  unfold t_l_said
  refine q_asg ev_c fun H1 e1 => ?_
  show tbSaid K (wSaid K { nx := fun σ' H' => (tRet (tVar 4)) { nx := fun _ H' => Q .non H', rt := Q } σ' H', rt := Q }) { nx := fun σ' H' => (tRet (tVar 4)) { nx := fun _ H' => Q .non H', rt := Q } σ' H', rt := Q } [some (.ref A.p), some (.int way), some (.int i), some (.int j), some (.str "none"), none] H1
  have wish : ∀ H2, Ex H H2 → wSaid K { nx := fun σ' H' => (tRet (tVar 4)) { nx := fun _ H' => Q .non H', rt := Q } σ' H', rt := Q } (.ref (He.ga K (exName nh))) none [some (.ref A.p), some (.int way), some (.int i), some (.int j), some (.str "none"), none] H2 := fun H2 e2 =>
    ⟨true, (TX.of nh).m, fun _ a ha => ⟨nh, ⟨rfl, rfl⟩, pur_suite TX fun H3 e3 => ⟨_, rfl, k H3 (e2.trans e3)⟩⟩, fun q => nomatch q⟩
  unfold tbSaid
  have h1 := h.mono e1
  rcases hb with ⟨rfl, hb⟩ | ⟨lw, hb⟩
  · refine s_if (b := true) (et_test (ev_is (ev_eqI (ev_var rfl) ev_c) (by decide))) (fun _ H2 e2 => ?_) (fun b => by cases b)
    exact u_drop ((ev_var (v := .ref A.p) rfl) H2 (Ex.refl H2) _ fun H3 e3 => ⟨A.p, A.dx, _, rfl, (h1.mono (e2.trans e3)).p, by kernel_rfl, A, s, Z, exName nh, rfl, h1.mono (e2.trans e3), hb, fun H4 e4 => wish H4 (e1.trans (e2.trans (e3.trans e4)))⟩)
  · refine s_if (b := false) (et_test (ev_is (ev_eqI (ev_var rfl) ev_c) (congrArg V.bl (decide_eq_false (by omega))))) (fun b => by cases b) (fun _ H2 e2 => ?_)
    exact u_drop ((ea_cons (ev_var rfl) (ea_cons (ev_var rfl) (ea_cons (ev_var rfl) (ea_cons (ev_var rfl) ea_nil))) : EvA (tCons (tVar 0) (tCons (tVar 1) (tCons (tVar 2) (tCons (tVar 3) tNil)))) [some (.ref A.p), some (.int way), some (.int i), some (.int j), some (.str "none"), none] _ [.ref A.p, .int way, .int i, .int j]) _ (Ex.refl _) _ fun H3 e3 => ⟨A, s, Z, way, i, j, exName nh, rfl, h1.mono (e2.trans e3), lw, hb, fun H4 e4 => wish H4 (e1.trans (e2.trans (e3.trans e4)))⟩)
end
end QH

/-! Law k04: can, the law. -/
namespace QH
open PySem PySem.Spec PyProof.Rows L2 Evl
section
variable {K : PySem.W.Frag} {mg : Str → Option Value} {Z : Addr → Prop} {σ : L2.St} {H H' : Hp} {ta tb tc td te tv : TE} {t u : TT} {x y z v : V} {a C dx p c : Addr} {A : Ad} {s : S} {D : Ends} {w : Wt} {P : V → Hp → Prop} {E : XK} {Q : VK} {i j : Int}
theorem ev_working (h : HallAt K Z H A s) (hn : s.n ≤ 6) (ho : Ev tb σ H (.ref A.p)) {a : Nat} (ha : a < s.n) (hx : Ev ta σ H (.int a)) : Ev (tOp (rIn K false) ta (tMeth (He.ga K "Hall") "working" (sp_Hall_working K) [] E0 tb tNil)) σ H (.bl (s.busy a)) :=
  ev_is (ev_inU hx (eu_working h hn ho) rfl working_flat) (by rw [inV_ints, in_working ha])
theorem ev_eqW {n : Nat} {k : Int} (h : Ev ta σ H (.int n)) {b : Bool} (e : decide ((n : Int) = k) = b) : EvT (tTest (tOp rEq ta (tC (.int k)))) σ H b := et_test (ev_is (ev_eqI h ev_c) (congrArg V.bl e))
theorem pur_l_can (T : TxtK K) : ∀ vs H Q E, sp_l_can K vs H Q E → t_l_can K { nx := fun _ H' => Q .non H', rt := Q } (start N_l_can vs) H := by
  rintro vs H Q E ⟨A, s, Z, way, a, b, rfl, h, n6, hw, two, k⟩
  show t_l_can K _ [some (.ref A.p), some (.int way), some (.int a), some (.int b)] H
  unfold t_l_can
  have hlen : Ev (tCB (rLenS K) (tCons (tMeth (He.ga K "Hall") "weights_home" (sp_Hall_weights_home K) [] E0 (tVar 0) (tCons (tVar 2) tNil)) tNil)) [some (.ref A.p), some (.int way), some (.int a), some (.int b)] H (.int ((s.hw a).length : Nat)) := fun H1 e1 Q' kk => u_cb1 ((evr_weights_home h (ev_var rfl) (ev_var rfl) two.1) H1 e1 _ (by
    rintro _ H2 e2 ⟨q, us, rfl, nq, hq, hw⟩
    refine ⟨q, us, rfl, Or.inr (st_of hq), ?_⟩
    rw [hw.len]
    exact kk H2 e2))
  simp only [List.mem_cons, List.not_mem_nil, or_false] at hw
  rcases hw with rfl | rfl | rfl | rfl | rfl
  · refine s_ifT (et_is (et_or (a := true) (ev_eqW (n := 0) (ev_var rfl) (by decide)) (b := true) (fun z => by cases z)) rfl) fun H1 e1 => ?_
    exact s_ret (ev_working (h.mono e1) n6 (ev_var rfl) two.1 (ev_var rfl)) fun H2 e2 => k H2 (e1.trans e2)
  · refine s_ifF (et_is (et_or (a := false) (b := false) (ev_eqW (n := 1) (ev_var rfl) (by decide)) (fun _ => ev_eqW (n := 1) (ev_var rfl) (by decide))) rfl) fun H1 e1 => ?_
    refine s_ifT (ev_eqW (n := 1) (ev_var rfl) (by decide)) fun H2 e2 => ?_
    exact s_ret (ev_is (ev_op (ev_works (h.mono (e1.trans e2)) (ev_var rfl) (ev_var rfl) (ev_var rfl) two) ev_c rv_gt) (congrArg V.bl (show _ = decide (0 < (s.rows a b).length) by rw [Bool.eq_iff_iff, decide_eq_true_eq, decide_eq_true_eq]; omega))) fun H3 e3 => k H3 (e1.trans (e2.trans e3))
  · refine s_ifF (et_is (et_or (a := false) (b := false) (ev_eqW (n := 2) (ev_var rfl) (by decide)) (fun _ => ev_eqW (n := 2) (ev_var rfl) (by decide))) rfl) fun H1 e1 => ?_
    refine s_ifF (ev_eqW (n := 2) (ev_var rfl) (by decide)) fun H2 e2 => ?_
    refine s_ifT (ev_eqW (n := 2) (ev_var rfl) (by decide)) fun H3 e3 => ?_
    exact s_ret (ev_op (ev_receipts (h.mono (e1.trans (e2.trans e3))) (ev_var rfl) (ev_var rfl) (ev_var rfl) two) ev_c rv_gt) fun H4 e4 => k H4 (e1.trans (e2.trans (e3.trans e4)))
  · refine s_ifT (et_is (et_or (a := false) (b := true) (ev_eqW (n := 6) (ev_var rfl) (by decide)) (fun _ => ev_eqW (n := 6) (ev_var rfl) (by decide))) rfl) fun H1 e1 => ?_
    exact s_ret (ev_working (h.mono e1) n6 (ev_var rfl) two.1 (ev_var rfl)) fun H2 e2 => k H2 (e1.trans e2)
  · refine s_ifF (et_is (et_or (a := false) (b := false) (ev_eqW (n := 7) (ev_var rfl) (by decide)) (fun _ => ev_eqW (n := 7) (ev_var rfl) (by decide))) rfl) fun H1 e1 => ?_
    refine s_ifF (ev_eqW (n := 7) (ev_var rfl) (by decide)) fun H2 e2 => ?_
    refine s_ifF (ev_eqW (n := 7) (ev_var rfl) (by decide)) fun H3 e3 => ?_
    exact s_ret (ev_is (ev_orV (a := false) (ev_is (ev_neI (i := ((7 : Nat) : Int)) (ev_var rfl) ev_c) (by decide)) (fun _ => ev_op (hlen.mono (e1.trans (e2.trans e3))) ev_c rv_gt)) (congrArg V.bl (show (false || _) = decide (0 < (s.hw a).length) by rw [Bool.false_or, Bool.eq_iff_iff, decide_eq_true_eq, decide_eq_true_eq]; omega))) fun H4 e4 => k H4 (e1.trans (e2.trans (e3.trans e4)))
/-! ### what is asked -/
theorem ask_one {way : Nat} (h : ¬ In1 s i) : askBad1 s way i "NoHand" := by
  unfold askBad1
  split
  · exact Or.inl ⟨rfl, Or.inl h⟩
  · exact Or.inl ⟨rfl, Or.inl h⟩
  · exact Or.inl ⟨rfl, Or.inl h⟩
theorem ask_out {way : Nat} (h : ¬ In1 s i) : askBad s way i j "NoHand" := by
  unfold askBad
  have q : ∀ {f : S → Nat → Nat → Prop}, bad2 f s i j "NoHand" := Or.inl ⟨rfl, fun z => h z.1⟩
  split
  · exact q
  · exact q
  · exact q
  · exact q
  · exact q
  · exact q
  · exact ask_one h
theorem ask_two {way : Nat} (hw : way < 6) (h : ¬ In2 s i j) : askBad s way i j "NoHand" := by
  match way, hw with
  | 0, _ => exact (show badSend s i j "NoHand" from Or.inl ⟨rfl, h⟩)
  | 1, _ => exact (show badTake s i j "NoHand" from Or.inl ⟨rfl, h⟩)
  | 2, _ => exact (show badBack s i j "NoHand" from Or.inl ⟨rfl, h⟩)
  | 3, _ => exact (show bad2 no2 s i j "NoHand" from Or.inl ⟨rfl, h⟩)
  | 4, _ => exact (show bad2 no2 s i j "NoHand" from Or.inl ⟨rfl, h⟩)
  | 5, _ => exact (show bad2 no2 s i j "NoHand" from Or.inl ⟨rfl, h⟩)
theorem ask_cant {way a b : Nat} (hw : way ∈ [0, 1, 2, 6, 7]) (two : Two s.n a b) (h7 : way < 7 ∨ 0 < a) (hc : canW s way a b = false) : askBad s way a b "NotNow" := by
  simp only [List.mem_cons, List.not_mem_nil, or_false] at hw
  rcases hw with rfl | rfl | rfl | rfl | rfl
  · exact Or.inr ⟨rfl, a, b, rfl, rfl, two, hc⟩
  · refine Or.inr ⟨rfl, a, b, rfl, rfl, two, ?_⟩
    have hc := of_decide_eq_false (show decide (0 < (s.rows a b).length) = false from hc)
    show s.rows a b = []
    exact List.length_eq_zero_iff.mp (by omega)
  · exact Or.inr ⟨rfl, a, b, rfl, rfl, two, of_decide_eq_false (show decide (0 < s.slips a b) = false from hc)⟩
  · exact Or.inr ⟨rfl, a, rfl, two.1, hc⟩
  · refine Or.inr ⟨rfl, a, rfl, two.1, by omega, ?_⟩
    have hc := of_decide_eq_false (show decide (0 < (s.hw a).length) = false from hc)
    exact List.length_eq_zero_iff.mp (by omega)
/-- said(hall, way, i, j) isn't what it ought to be: never -/
theorem et_said {way : Nat} {nh : Bool} (h : HallAt K Z H A s) (ho : Ev ta σ H (.ref A.p)) (hw : Ev tb σ H (.int way)) (hi : Ev tc σ H (.int i)) (hj : Ev td σ H (.int j)) (hb : (way = 14 ∧ badPass s (exName nh)) ∨ (way ≤ 13 ∧ askBad s way i j (exName nh))) :
    EvT (tTest (tOp rNe (tCall (sp_l_said K) [] E0 (tCons ta (tCons tb (tCons tc (tCons td tNil))))) (tC (.str (word nh))))) σ H false :=
  et_test (ev_is (ev_op (ev_call (vs := [.ref A.p, .int way, .int i, .int j]) (z := .str (word nh)) (ea_cons ho (ea_cons hw (ea_cons hi (ea_cons hj ea_nil)))) fun H1 e Q q E => ⟨A, s, Z, way, i, j, nh, rfl, h.mono e, hb, fun H' e' => q H' e'⟩) ev_c (rv_ne rfl)) (by simp))
theorem ev_can {way a b : Nat} (h : HallAt K Z H A s) (n6 : s.n ≤ 6) (ho : Ev ta σ H (.ref A.p)) (hw : Ev tb σ H (.int way)) (hi : Ev tc σ H (.int a)) (hj : Ev td σ H (.int b)) (hm : way ∈ [0, 1, 2, 6, 7]) (two : Two s.n a b) :
    Ev (tCall (sp_l_can K) [] E0 (tCons ta (tCons tb (tCons tc (tCons td tNil))))) σ H (.bl (canW s way a b)) :=
  ev_call (vs := [.ref A.p, .int way, .int a, .int b]) (ea_cons ho (ea_cons hw (ea_cons hi (ea_cons hj ea_nil)))) fun H1 e Q q E => ⟨A, s, Z, way, a, b, rfl, h.mono e, n6, hm, two, fun H' e' => q H' e'⟩
theorem q_forE {tl : TE} {g : TG} {tu rest : TS} (h : EvR tl σ H P) (k : ∀ v H1, Ex H H1 → P v H1 → ∃ (a : Addr) (xs : List V), v = .ref a ∧ SqL K H1 a xs ∧ ∃ Pv : Nat → L2.St → Hp → Prop, Pv 0 σ H1 ∧ (∀ i σ' H', i ≤ xs.length → Pv i σ' H' → SqL K H' a xs) ∧
    (∀ i x σ' H', xs[i]? = some x → Pv i σ' H' → g x σ' H' fun σ2 H2 => tu { D with nx := Pv (i + 1), ct := Pv (i + 1), bk := rest D } σ2 H2) ∧ ∀ σ' H', Pv xs.length σ' H' → rest D σ' H') : tSeq (tFor (iList K tl) g tu) rest D σ H :=
  h H (Ex.refl H) _ fun v H1 e p => by
    obtain ⟨a, xs, ev, hs, Pv, p0, hl, hs', hd⟩ := k v H1 e p
    exact ⟨a, ev, ⟨xs, hs⟩, for_list Pv p0 hl hs' hd⟩
/-! ### the law -/
structure J04 (u : Nat) (s : S) : Prop where
  w : WI u s
  si : SI u s
theorem J04.good {u : Nat} (h : J04 u s) (hu : u ≤ 62) : Good s := good_of h.w h.si hu (by omega)
theorem J04.mono {u : Nat} (h : J04 u s) : J04 (u + 1) s := ⟨h.w.mono, h.si.mono⟩
theorem J04.step {u : Nat} {x : Act} (h : J04 u s) (hu : u < 90) (hc : s.Can x) : J04 (u + 1) (s.step x) := ⟨h.w.step hu (by have := h.si.n2; omega) hc, h.si.step hc⟩
theorem J04.init {n : Nat} (h2 : 2 ≤ n) (h6 : n ≤ 6) : J04 0 (S.init n) := ⟨WI.init (by omega), SI.init h2 h6⟩
theorem bad_of {s : S} {far : Int} {i : Nat} {x : V} (f0 : 0 ≤ far) (h : ([.int (-1), .int s.n, .int (s.n + far), .int (-1 - far)] : List V)[i]? = some x) : ∃ b : Int, x = .int b ∧ ¬ In1 s b := by
  have hm := List.mem_of_getElem? h
  simp only [List.mem_cons, List.not_mem_nil, or_false] at hm
  rcases hm with rfl | rfl | rfl | rfl
  · exact ⟨_, rfl, fun z => by have := z.1; omega⟩
  · exact ⟨_, rfl, fun z => by have := z.2; omega⟩
  · exact ⟨_, rfl, fun z => by have := z.2; omega⟩
  · exact ⟨_, rfl, fun z => by have := z.1; omega⟩
theorem way_of {i : Nat} {x : V} (h : ([.int 0, .int 1, .int 2, .int 6, .int 7] : List V)[i]? = some x) : ∃ w : Nat, x = .int w ∧ w ∈ [0, 1, 2, 6, 7] := by
  have hm := List.mem_of_getElem? h
  simp only [List.mem_cons, List.not_mem_nil, or_false] at hm
  rcases hm with rfl | rfl | rfl | rfl | rfl
  · exact ⟨0, rfl, by decide⟩
  · exact ⟨1, rfl, by decide⟩
  · exact ⟨2, rfl, by decide⟩
  · exact ⟨6, rfl, by decide⟩
  · exact ⟨7, rfl, by decide⟩
theorem pur_law (T : TxtK K) : ∀ vs H Q E, sp_law K vs H Q E → t_law K { nx := fun _ H' => Q .non H', rt := Q } (start N_law vs) H := by
  rintro vs H Q E ⟨a, ns, rfl, hS, hlen, k⟩
  show t_law K _ [some (.ref a), none, none, none, none, none, none, none, none] H
  unfold t_law
  obtain ⟨m2, m6⟩ := many_bounds ns
  have en := many_nat ns
  generalize hn : (many ns).toNat = n at en
  refine s_asg (ev_is (ev_many (ev_var rfl) hS) (congrArg V.int en)) fun H1 e1 => ?_
  refine s_asgR (evr_hall (n := n) (ev_var rfl) (by omega) (by omega)) ?_
  rintro _ H2 e2 ⟨A, rfl, hA, hR⟩
  have hS1 : SqL K H1 a (ns.map V.int) := ex_l e1 hS
  have hS2 : SqL K H2 a (ns.map V.int) := ex_l (e1.trans e2) hS
  have keep : ∀ {H3 H4 : Hp}, SqL K H3 a (ns.map V.int) → Kp A H3 H4 → SqL K H4 a (ns.map V.int) := fun {H3 H4} h3 k3 => by
    rcases hS1 with h1 | h1
    · have hz : A.R a = 0 := by
        by_cases e : A.R a = 0
        · exact e
        · have hx := hR a e
          rcases h1 with h1 | ⟨o, h1⟩
          · rw [hx] at h1
            cases h1
          · rw [hx] at h1
            cases h1
      exact kp_sq h3 k3 fun _ _ => hz
    · exact Or.inr h1
  have lcut : (cutI ns (some 1) (some 50)).length ≤ 60 := by
    unfold cutI
    rw [List.length_take]
    have e1 : HT.sIx ns.length ns.length (some 50) = min 50 ns.length := HT.sIx_nat _ _ 50
    omega
  have hsl : EvL (tSl (rSlL K) (tVar 0) (tPart (tC (.int 1))) (tPart (tC (.int 50)))) [some (.ref a), some (.int n), some (.ref A.p), none, none, none, none, none, none] H2 ((cutI ns (some 1) (some 50)).map V.int) := by
    rw [← cutV_ints]
    exact el_slice (ev_var rfl) hS2 ev_c ev_c
  generalize cutI ns (some 1) (some 50) = cs at lcut hsl
  refine u_dcall3 (D := { nx := _, rt := Q }) (ev_var rfl) (ev_var rfl) (evr_L hsl) ?_
  rintro _ H3 e3 ⟨q, rfl, nq, hq⟩
  refine ⟨A, S.init n, _, q, cs, J04, rfl, hA.mono e3, hq, hA.zf q nq, J04.init (by omega) (by omega), fun i s hi h => h.good (by omega), fun i s hi h => h.mono, fun i s a hi h hc => h.step (by omega) hc, fun H4 h4 k4 inv => ?_⟩
  have hS4 := keep (ex_l e3 hS2) k4
  have n4 : ((S.init n).play cs).n = n := play_n
  generalize (S.init n).play cs = s at *
  subst n4
  have n2 := inv.si.n2
  have n6 := inv.si.n6
  have pl := inv.si.pl
  clear keep hsl hA hR hS1 hS2 hq
  refine s_asgR (evr_shown h4 (by omega) n6 (ev_var rfl) (ev_var rfl)) fun v3 H5 e5 hd => ?_
  show (tSeq _ _) _ [some (.ref a), some (.int s.n), some (.ref A.p), some v3, none, none, none, none, none] H5
  refine q_asg (ev_op (ev_cell (k := 50) (ev_var rfl) ev_c (ex_l e5 hS4)) (ev_op (x := .int 10) (y := .int 20) (z := .int (10 ^ (20 : Int).toNat)) ev_c ev_c (rv_I ⟨by decide, by decide, by decide⟩)) (rv_mod (by decide))) fun H6 e6 => ?_
  have f0 : 0 ≤ cell ns 50 % (10 ^ (20 : Int).toNat) := Int.emod_nonneg _ (by decide)
  generalize cell ns 50 % (10 ^ (20 : Int).toNat) = far at f0
  show (tSeq _ _) _ [some (.ref a), some (.int s.n), some (.ref A.p), some v3, some (.int far), none, none, none, none] H6
  have h6 := h4.mono (e5.trans e6)
  have hd6 := dp_mono e6 hd
  refine q_forNLn (xs := [.int (-1), .int s.n, .int (s.n + far), .int (-1 - far)]) (el_lst (ea_cons (ev_un ev_c ru_neg) (ea_cons (ev_var rfl) (ea_cons (ev_op (ev_var rfl) (ev_var rfl) rv_add) (ea_cons (ev_op (x := .int (-1)) (ev_un ev_c ru_neg) (ev_var rfl) rv_sub) ea_nil)))) (by show 4 ≤ 100000; decide))
    (fun p i σ' H' => ∃ v5 v6, σ' = [some (.ref a), some (.int s.n), some (.ref A.p), some v3, some (.int far), v5, v6, none, none] ∧ Ex H6 H' ∧ H' p = some (.lst [.int (-1), .int s.n, .int (s.n + far), .int (-1 - far)]))
    (fun p H7 _ e7 hp => ⟨none, none, rfl, e7, hp⟩) (fun p i σ' H' _ ⟨_, _, _, _, hp⟩ => sq_of hp) ?_ ?_
  · rintro p i x σ' H7 hx ⟨v5, v6, rfl, ex7, hp⟩
    obtain ⟨bd, rfl, hb⟩ := bad_of f0 hx
    show (tFor _ _ _) _ [some (.ref a), some (.int s.n), some (.ref A.p), some v3, some (.int far), some (.int bd), v6, none, none] H7
    refine s_forR1 (n := 14) (ea_cons ev_c ea_nil) ⟨by decide, by decide⟩ (fun i σ' H' => ∃ v6, σ' = [some (.ref a), some (.int s.n), some (.ref A.p), some v3, some (.int far), some (.int bd), v6, none, none] ∧ Ex H7 H') (fun H8 e8 => ⟨_, rfl, e8⟩) ?_ (fun σ' H' ⟨v6, h, ex⟩ => ⟨_, _, h, ex7.trans ex, ex _ _ hp⟩)
    rintro m σ' H8 hm ⟨v6', rfl, ex8⟩
    show (tSeq _ _) _ [some (.ref a), some (.int s.n), some (.ref A.p), some v3, some (.int far), some (.int bd), some (.int m), none, none] H8
    have h8 := h6.mono (ex7.trans ex8)
    refine s_ifF (et_said (nh := true) h8 (ev_var rfl) (ev_var rfl) (ev_var rfl) ev_c (Or.inr ⟨by omega, ask_out hb⟩)) fun H9 e9 => ?_
    have h9 := h8.mono e9
    refine s_ifF (et_is (et_and (a := decide ((m : Int) < 6)) (b := false) (et_test (ev_op (ev_var rfl) ev_c rv_lt)) (fun z => et_said (nh := true) h9 (ev_var rfl) (ev_var rfl) ev_c (ev_var rfl) (Or.inr ⟨by omega, ask_two (by have := of_decide_eq_true z; omega) (fun z => hb z.2.1)⟩))) (Bool.and_false _)) fun H10 e10 => ?_
    have h10 := h9.mono e10
    refine s_if (b := false) (et_is (et_and (a := decide ((m : Int) < 6)) (b := false) (et_test (ev_op (ev_var rfl) ev_c rv_lt)) (fun z => et_said (nh := true) h10 (ev_var rfl) (ev_var rfl) ev_c ev_c (Or.inr ⟨by omega, ask_two (by have := of_decide_eq_true z; omega) (fun z => z.2.2 rfl)⟩))) (Bool.and_false _)) (fun b => by cases b) (fun _ H11 e11 => ⟨_, rfl, ex8.trans (e9.trans (e10.trans e11))⟩)
  · rintro p σ' H7 ⟨v5, v6, rfl, ex7, _⟩
    have h7 := h6.mono ex7
    refine s_ifF (et_said (way := 7) (nh := true) h7 (ev_var rfl) ev_c ev_c ev_c (Or.inr ⟨by decide, Or.inl ⟨rfl, Or.inr ⟨0, rfl, by omega, rfl⟩⟩⟩)) fun H8 e8 => ?_
    have ex8 := ex7.trans e8
    refine q_forE (evr_roads (n := s.n) (ev_var rfl) n6) ?_
    rintro _ H9 e9 ⟨qr, us, rfl, nr, hqr, hr⟩
    have ex9 := ex8.trans e9
    refine ⟨qr, us, rfl, sq_of hqr, (fun i σ' H' => ∃ v5 v6 v7 v8, σ' = [some (.ref a), some (.int s.n), some (.ref A.p), some v3, some (.int far), v5, v6, v7, v8] ∧ Ex H9 H'), ⟨_, _, _, _, rfl, Ex.refl _⟩, (fun i σ' H' _ ⟨_, _, _, _, _, ex⟩ => sq_of (ex _ _ hqr)), ?_, ?_⟩
    · rintro i v σ' H10 hv ⟨v5, v6, v7, v8, rfl, ex10⟩
      obtain ⟨r, hri, q1, rfl, hq1⟩ := hr.back hv
      have two := roads_get hri
      refine ⟨q1, roadV r, rfl, st_of (ex10 _ _ hq1), rfl, _, _, rfl, _, _, rfl, rfl, ?_⟩
      show (tFor _ _ _) _ [some (.ref a), some (.int s.n), some (.ref A.p), some v3, some (.int far), v5, v6, some (.int r.1), some (.int r.2)] H10
      refine s_forNL (xs := [.int 0, .int 1, .int 2, .int 6, .int 7]) (g := gName 6) (el_lst (ea_cons ev_c (ea_cons ev_c (ea_cons ev_c (ea_cons ev_c (ea_cons ev_c ea_nil))))) (by show 5 ≤ 100000; decide))
        (fun p i σ' H' => ∃ v6, σ' = [some (.ref a), some (.int s.n), some (.ref A.p), some v3, some (.int far), v5, v6, some (.int r.1), some (.int r.2)] ∧ Ex H10 H' ∧ H' p = some (.lst [.int 0, .int 1, .int 2, .int 6, .int 7]))
        (fun p H11 _ e11 hp => ⟨_, rfl, e11, hp⟩) (fun p i σ' H' _ ⟨_, _, _, hp⟩ => sq_of hp) ?_ (fun p σ' H' ⟨v6, h, ex, _⟩ => ⟨_, _, _, _, h, ex10.trans ex⟩)
      rintro p i x σ' H11 hx ⟨v6, rfl, ex11, hp⟩
      obtain ⟨way, rfl, hm⟩ := way_of hx
      show (tIfS _ _ _) _ [some (.ref a), some (.int s.n), some (.ref A.p), some v3, some (.int far), v5, some (.int way), some (.int r.1), some (.int r.2)] H11
      have h11 := h6.mono (ex9.trans (ex10.trans ex11))
      have w13 : way ≤ 13 := by
        simp only [List.mem_cons, List.not_mem_nil, or_false] at hm
        omega
      refine s_if (b := (decide ((way : Int) < 7) || decide ((0 : Int) < (r.1 : Int))) && !canW s way r.1 r.2) (et_and (et_or (et_test (ev_op (ev_var rfl) ev_c rv_lt)) (fun _ => et_test (ev_op (ev_var rfl) ev_c rv_gt))) (fun _ => et_not (et_B (ev_can h11 n6 (ev_var rfl) (ev_var rfl) (ev_var rfl) (ev_var rfl) hm two)))) (fun hb H12 e12 => ?_) (fun _ H12 e12 => ⟨_, rfl, ex11.trans e12, e12 _ _ hp⟩)
      rw [Bool.and_eq_true, Bool.or_eq_true, decide_eq_true_eq, decide_eq_true_eq, Bool.not_eq_true'] at hb
      have h12 := h11.mono e12
      exact s_if (b := false) (et_said (nh := false) h12 (ev_var rfl) (ev_var rfl) (ev_var rfl) (ev_var rfl) (Or.inr ⟨w13, ask_cant hm two (by omega) hb.2⟩)) (fun b => by cases b) (fun _ H13 e13 => ⟨_, rfl, ex11.trans (e12.trans e13), (e12.trans e13) _ _ hp⟩)
    · rintro σ' H10 ⟨v5, v6, v7, v8, rfl, ex10⟩
      have h10 := h6.mono (ex9.trans ex10)
      refine s_ifF (et_is (et_and (a := s.busy s.place) (b := false) (et_working h10 n6 (ev_var rfl) pl (ev_tixU (i := 0) (eu_token h10 (ev_var rfl)) rfl)) (fun hb => et_said (way := 14) (nh := false) h10 (ev_var rfl) ev_c ev_c ev_c (Or.inl ⟨rfl, rfl, pl, hb⟩))) (Bool.and_false _)) fun H11 e11 => ?_
      have h11 := h10.mono e11
      have hd11 := dp_mono (ex9.trans (ex10.trans e11)) hd6
      have fin : Ev (tOp (rEqD K) (tCall (sp_l_shown K) [] E0 (tCons (tVar 2) (tCons (tVar 1) tNil))) (tVar 3)) [some (.ref a), some (.int s.n), some (.ref A.p), some v3, some (.int far), v5, v6, v7, v8] H11 (.bl true) := fun H12 e12 Q' kk =>
        (evr_shown h11 (by omega) n6 (ev_var rfl) (ev_var rfl)) H12 e12 _ fun v H13 e13 d1 => (ev_var (v := v3) rfl) H13 ((e12.trans e13)) _ fun H14 e14 => ⟨s.shownD, s.shownD, dp_mono e14 d1, dp_mono (e12.trans (e13.trans e14)) hd11, shown_shaped, shown_shaped, by rw [shown_eqv]; exact kk H14 (e13.trans e14)⟩
      exact s_ret fin fun H12 e12 => k H12
end
end QH

namespace QH
open PySem PySem.Spec PyProof.Rows L2
def top (i : Nat) : Stmt := PySem.Challenge.pw_quiethall_k04_refusals.main.body.getD i (.Pass ⟨0, 0, 0, 0⟩)
abbrev s_Ring_init : Stmt := inClass (top 5) 0
abbrev s_Ring_sent : Stmt := inClass (top 5) 1
abbrev s_Ring_taken : Stmt := inClass (top 5) 2
abbrev s_Ring_passed : Stmt := inClass (top 5) 3
abbrev s_Tree_init : Stmt := inClass (top 7) 0
abbrev s_Tree_is_in : Stmt := inClass (top 7) 1
abbrev s_Tree_slip : Stmt := inClass (top 7) 2
abbrev s_Tree_sent : Stmt := inClass (top 7) 3
abbrev s_Tree_taken : Stmt := inClass (top 7) 4
abbrev s_Tree_settle : Stmt := inClass (top 7) 5
abbrev s_Tree_came_back : Stmt := inClass (top 7) 6
abbrev s_normal : Stmt := top 9
abbrev s_half : Stmt := top 10
abbrev s_plus : Stmt := top 11
abbrev s_Weights_init : Stmt := inClass (top 12) 0
abbrev s_Weights_split : Stmt := inClass (top 12) 1
abbrev s_Weights_add : Stmt := inClass (top 12) 2
abbrev s_Weights_rested : Stmt := inClass (top 12) 3
abbrev s_Weights_came_home : Stmt := inClass (top 12) 4
abbrev s_Hall_init : Stmt := inClass (top 14) 0
abbrev s_Hall_must_be : Stmt := inClass (top 14) 1
abbrev s_Hall_must_be_two : Stmt := inClass (top 14) 2
abbrev s_Hall_must : Stmt := inClass (top 14) 3
abbrev s_Hall_row : Stmt := inClass (top 14) 4
abbrev s_Hall_send : Stmt := inClass (top 14) 5
abbrev s_Hall_take : Stmt := inClass (top 14) 6
abbrev s_Hall_rest : Stmt := inClass (top 14) 7
abbrev s_Hall_back : Stmt := inClass (top 14) 8
abbrev s_Hall_home : Stmt := inClass (top 14) 9
abbrev s_Hall_pass_on : Stmt := inClass (top 14) 10
abbrev s_Hall_working : Stmt := inClass (top 14) 11
abbrev s_Hall_works : Stmt := inClass (top 14) 12
abbrev s_Hall_is_quiet : Stmt := inClass (top 14) 13
abbrev s_Hall_open_of : Stmt := inClass (top 14) 14
abbrev s_Hall_above : Stmt := inClass (top 14) 15
abbrev s_Hall_receipts : Stmt := inClass (top 14) 16
abbrev s_Hall_weight_of : Stmt := inClass (top 14) 17
abbrev s_Hall_weights_on : Stmt := inClass (top 14) 18
abbrev s_Hall_weights_home : Stmt := inClass (top 14) 19
abbrev s_Hall_token : Stmt := inClass (top 14) 20
abbrev s_Hall_count_of : Stmt := inClass (top 14) 21
abbrev s_Hall_colour_of : Stmt := inClass (top 14) 22
abbrev s_Hall_told : Stmt := inClass (top 14) 23
abbrev s_l_cell : Stmt := top 16
abbrev s_l_mix : Stmt := top 17
abbrev s_l_many : Stmt := top 18
abbrev s_l_roads : Stmt := top 19
abbrev s_l_choices : Stmt := top 20
abbrev s_l_act : Stmt := top 21
abbrev s_l_do : Stmt := top 22
abbrev s_l_play : Stmt := top 23
abbrev s_l_shown : Stmt := top 24
abbrev s_l_ask : Stmt := top 25
abbrev s_l_ask_one : Stmt := top 26
abbrev s_l_said : Stmt := top 27
abbrev s_l_can : Stmt := top 28
abbrev s_law : Stmt := top 29
structure Txt2 (K : PySem.W.Frag) (mg : Str → Option Value) : Prop extends Txt K mg where
  len : mg "len" = none
  range : mg "range" = none
  max : mg "max" = none
  tuple : mg "tuple" = none
  any : mg "any" = none
  isinstance : mg "isinstance" = none
  int : mg "int" = none
theorem len_Ring_init {K : PySem.W.Frag} : ∀ vs H Q E, sp_Ring_init K vs H Q E → vs.length = 2 := by
  intro vs H Q E h
  first | (obtain ⟨_, rfl, _⟩ := h; rfl) | (obtain ⟨_, _, rfl, _⟩ := h; rfl) | (obtain ⟨_, _, _, rfl, _⟩ := h; rfl) | (obtain ⟨_, _, _, _, rfl, _⟩ := h; rfl) | (obtain ⟨_, _, _, _, _, rfl, _⟩ := h; rfl) | (obtain ⟨_, _, _, _, _, _, rfl, _⟩ := h; rfl) | (obtain ⟨_, _, _, _, _, _, _, rfl, _⟩ := h; rfl) | (obtain ⟨_, _, _, _, _, _, _, _, rfl, _⟩ := h; rfl)
theorem len_Ring_sent {K : PySem.W.Frag} : ∀ vs H Q E, sp_Ring_sent K vs H Q E → vs.length = 2 := by
  intro vs H Q E h
  first | (obtain ⟨_, rfl, _⟩ := h; rfl) | (obtain ⟨_, _, rfl, _⟩ := h; rfl) | (obtain ⟨_, _, _, rfl, _⟩ := h; rfl) | (obtain ⟨_, _, _, _, rfl, _⟩ := h; rfl) | (obtain ⟨_, _, _, _, _, rfl, _⟩ := h; rfl) | (obtain ⟨_, _, _, _, _, _, rfl, _⟩ := h; rfl) | (obtain ⟨_, _, _, _, _, _, _, rfl, _⟩ := h; rfl) | (obtain ⟨_, _, _, _, _, _, _, _, rfl, _⟩ := h; rfl)
theorem len_Ring_taken {K : PySem.W.Frag} : ∀ vs H Q E, sp_Ring_taken K vs H Q E → vs.length = 2 := by
  intro vs H Q E h
  first | (obtain ⟨_, rfl, _⟩ := h; rfl) | (obtain ⟨_, _, rfl, _⟩ := h; rfl) | (obtain ⟨_, _, _, rfl, _⟩ := h; rfl) | (obtain ⟨_, _, _, _, rfl, _⟩ := h; rfl) | (obtain ⟨_, _, _, _, _, rfl, _⟩ := h; rfl) | (obtain ⟨_, _, _, _, _, _, rfl, _⟩ := h; rfl) | (obtain ⟨_, _, _, _, _, _, _, rfl, _⟩ := h; rfl) | (obtain ⟨_, _, _, _, _, _, _, _, rfl, _⟩ := h; rfl)
theorem len_Ring_passed {K : PySem.W.Frag} : ∀ vs H Q E, sp_Ring_passed K vs H Q E → vs.length = 1 := by
  intro vs H Q E h
  first | (obtain ⟨_, rfl, _⟩ := h; rfl) | (obtain ⟨_, _, rfl, _⟩ := h; rfl) | (obtain ⟨_, _, _, rfl, _⟩ := h; rfl) | (obtain ⟨_, _, _, _, rfl, _⟩ := h; rfl) | (obtain ⟨_, _, _, _, _, rfl, _⟩ := h; rfl) | (obtain ⟨_, _, _, _, _, _, rfl, _⟩ := h; rfl) | (obtain ⟨_, _, _, _, _, _, _, rfl, _⟩ := h; rfl) | (obtain ⟨_, _, _, _, _, _, _, _, rfl, _⟩ := h; rfl)
theorem len_Tree_init {K : PySem.W.Frag} : ∀ vs H Q E, sp_Tree_init K vs H Q E → vs.length = 2 := by
  intro vs H Q E h
  first | (obtain ⟨_, rfl, _⟩ := h; rfl) | (obtain ⟨_, _, rfl, _⟩ := h; rfl) | (obtain ⟨_, _, _, rfl, _⟩ := h; rfl) | (obtain ⟨_, _, _, _, rfl, _⟩ := h; rfl) | (obtain ⟨_, _, _, _, _, rfl, _⟩ := h; rfl) | (obtain ⟨_, _, _, _, _, _, rfl, _⟩ := h; rfl) | (obtain ⟨_, _, _, _, _, _, _, rfl, _⟩ := h; rfl) | (obtain ⟨_, _, _, _, _, _, _, _, rfl, _⟩ := h; rfl)
theorem len_Tree_is_in {K : PySem.W.Frag} : ∀ vs H Q E, sp_Tree_is_in K vs H Q E → vs.length = 2 := by
  intro vs H Q E h
  first | (obtain ⟨_, rfl, _⟩ := h; rfl) | (obtain ⟨_, _, rfl, _⟩ := h; rfl) | (obtain ⟨_, _, _, rfl, _⟩ := h; rfl) | (obtain ⟨_, _, _, _, rfl, _⟩ := h; rfl) | (obtain ⟨_, _, _, _, _, rfl, _⟩ := h; rfl) | (obtain ⟨_, _, _, _, _, _, rfl, _⟩ := h; rfl) | (obtain ⟨_, _, _, _, _, _, _, rfl, _⟩ := h; rfl) | (obtain ⟨_, _, _, _, _, _, _, _, rfl, _⟩ := h; rfl)
theorem len_Tree_slip {K : PySem.W.Frag} : ∀ vs H Q E, sp_Tree_slip K vs H Q E → vs.length = 3 := by
  intro vs H Q E h
  first | (obtain ⟨_, rfl, _⟩ := h; rfl) | (obtain ⟨_, _, rfl, _⟩ := h; rfl) | (obtain ⟨_, _, _, rfl, _⟩ := h; rfl) | (obtain ⟨_, _, _, _, rfl, _⟩ := h; rfl) | (obtain ⟨_, _, _, _, _, rfl, _⟩ := h; rfl) | (obtain ⟨_, _, _, _, _, _, rfl, _⟩ := h; rfl) | (obtain ⟨_, _, _, _, _, _, _, rfl, _⟩ := h; rfl) | (obtain ⟨_, _, _, _, _, _, _, _, rfl, _⟩ := h; rfl)
theorem len_Tree_sent {K : PySem.W.Frag} : ∀ vs H Q E, sp_Tree_sent K vs H Q E → vs.length = 2 := by
  intro vs H Q E h
  first | (obtain ⟨_, rfl, _⟩ := h; rfl) | (obtain ⟨_, _, rfl, _⟩ := h; rfl) | (obtain ⟨_, _, _, rfl, _⟩ := h; rfl) | (obtain ⟨_, _, _, _, rfl, _⟩ := h; rfl) | (obtain ⟨_, _, _, _, _, rfl, _⟩ := h; rfl) | (obtain ⟨_, _, _, _, _, _, rfl, _⟩ := h; rfl) | (obtain ⟨_, _, _, _, _, _, _, rfl, _⟩ := h; rfl) | (obtain ⟨_, _, _, _, _, _, _, _, rfl, _⟩ := h; rfl)
theorem len_Tree_taken {K : PySem.W.Frag} : ∀ vs H Q E, sp_Tree_taken K vs H Q E → vs.length = 3 := by
  intro vs H Q E h
  first | (obtain ⟨_, rfl, _⟩ := h; rfl) | (obtain ⟨_, _, rfl, _⟩ := h; rfl) | (obtain ⟨_, _, _, rfl, _⟩ := h; rfl) | (obtain ⟨_, _, _, _, rfl, _⟩ := h; rfl) | (obtain ⟨_, _, _, _, _, rfl, _⟩ := h; rfl) | (obtain ⟨_, _, _, _, _, _, rfl, _⟩ := h; rfl) | (obtain ⟨_, _, _, _, _, _, _, rfl, _⟩ := h; rfl) | (obtain ⟨_, _, _, _, _, _, _, _, rfl, _⟩ := h; rfl)
theorem len_Tree_settle {K : PySem.W.Frag} : ∀ vs H Q E, sp_Tree_settle K vs H Q E → vs.length = 3 := by
  intro vs H Q E h
  first | (obtain ⟨_, rfl, _⟩ := h; rfl) | (obtain ⟨_, _, rfl, _⟩ := h; rfl) | (obtain ⟨_, _, _, rfl, _⟩ := h; rfl) | (obtain ⟨_, _, _, _, rfl, _⟩ := h; rfl) | (obtain ⟨_, _, _, _, _, rfl, _⟩ := h; rfl) | (obtain ⟨_, _, _, _, _, _, rfl, _⟩ := h; rfl) | (obtain ⟨_, _, _, _, _, _, _, rfl, _⟩ := h; rfl) | (obtain ⟨_, _, _, _, _, _, _, _, rfl, _⟩ := h; rfl)
theorem len_Tree_came_back {K : PySem.W.Frag} : ∀ vs H Q E, sp_Tree_came_back K vs H Q E → vs.length = 3 := by
  intro vs H Q E h
  first | (obtain ⟨_, rfl, _⟩ := h; rfl) | (obtain ⟨_, _, rfl, _⟩ := h; rfl) | (obtain ⟨_, _, _, rfl, _⟩ := h; rfl) | (obtain ⟨_, _, _, _, rfl, _⟩ := h; rfl) | (obtain ⟨_, _, _, _, _, rfl, _⟩ := h; rfl) | (obtain ⟨_, _, _, _, _, _, rfl, _⟩ := h; rfl) | (obtain ⟨_, _, _, _, _, _, _, rfl, _⟩ := h; rfl) | (obtain ⟨_, _, _, _, _, _, _, _, rfl, _⟩ := h; rfl)
theorem len_normal {K : PySem.W.Frag} : ∀ vs H Q E, sp_normal K vs H Q E → vs.length = 2 := by
  intro vs H Q E h
  first | (obtain ⟨_, rfl, _⟩ := h; rfl) | (obtain ⟨_, _, rfl, _⟩ := h; rfl) | (obtain ⟨_, _, _, rfl, _⟩ := h; rfl) | (obtain ⟨_, _, _, _, rfl, _⟩ := h; rfl) | (obtain ⟨_, _, _, _, _, rfl, _⟩ := h; rfl) | (obtain ⟨_, _, _, _, _, _, rfl, _⟩ := h; rfl) | (obtain ⟨_, _, _, _, _, _, _, rfl, _⟩ := h; rfl) | (obtain ⟨_, _, _, _, _, _, _, _, rfl, _⟩ := h; rfl)
theorem len_half {K : PySem.W.Frag} : ∀ vs H Q E, sp_half K vs H Q E → vs.length = 1 := by
  intro vs H Q E h
  first | (obtain ⟨_, rfl, _⟩ := h; rfl) | (obtain ⟨_, _, rfl, _⟩ := h; rfl) | (obtain ⟨_, _, _, rfl, _⟩ := h; rfl) | (obtain ⟨_, _, _, _, rfl, _⟩ := h; rfl) | (obtain ⟨_, _, _, _, _, rfl, _⟩ := h; rfl) | (obtain ⟨_, _, _, _, _, _, rfl, _⟩ := h; rfl) | (obtain ⟨_, _, _, _, _, _, _, rfl, _⟩ := h; rfl) | (obtain ⟨_, _, _, _, _, _, _, _, rfl, _⟩ := h; rfl)
theorem len_plus {K : PySem.W.Frag} : ∀ vs H Q E, sp_plus K vs H Q E → vs.length = 2 := by
  intro vs H Q E h
  first | (obtain ⟨_, rfl, _⟩ := h; rfl) | (obtain ⟨_, _, rfl, _⟩ := h; rfl) | (obtain ⟨_, _, _, rfl, _⟩ := h; rfl) | (obtain ⟨_, _, _, _, rfl, _⟩ := h; rfl) | (obtain ⟨_, _, _, _, _, rfl, _⟩ := h; rfl) | (obtain ⟨_, _, _, _, _, _, rfl, _⟩ := h; rfl) | (obtain ⟨_, _, _, _, _, _, _, rfl, _⟩ := h; rfl) | (obtain ⟨_, _, _, _, _, _, _, _, rfl, _⟩ := h; rfl)
theorem len_Weights_init {K : PySem.W.Frag} : ∀ vs H Q E, sp_Weights_init K vs H Q E → vs.length = 2 := by
  intro vs H Q E h
  first | (obtain ⟨_, rfl, _⟩ := h; rfl) | (obtain ⟨_, _, rfl, _⟩ := h; rfl) | (obtain ⟨_, _, _, rfl, _⟩ := h; rfl) | (obtain ⟨_, _, _, _, rfl, _⟩ := h; rfl) | (obtain ⟨_, _, _, _, _, rfl, _⟩ := h; rfl) | (obtain ⟨_, _, _, _, _, _, rfl, _⟩ := h; rfl) | (obtain ⟨_, _, _, _, _, _, _, rfl, _⟩ := h; rfl) | (obtain ⟨_, _, _, _, _, _, _, _, rfl, _⟩ := h; rfl)
theorem len_Weights_split {K : PySem.W.Frag} : ∀ vs H Q E, sp_Weights_split K vs H Q E → vs.length = 2 := by
  intro vs H Q E h
  first | (obtain ⟨_, rfl, _⟩ := h; rfl) | (obtain ⟨_, _, rfl, _⟩ := h; rfl) | (obtain ⟨_, _, _, rfl, _⟩ := h; rfl) | (obtain ⟨_, _, _, _, rfl, _⟩ := h; rfl) | (obtain ⟨_, _, _, _, _, rfl, _⟩ := h; rfl) | (obtain ⟨_, _, _, _, _, _, rfl, _⟩ := h; rfl) | (obtain ⟨_, _, _, _, _, _, _, rfl, _⟩ := h; rfl) | (obtain ⟨_, _, _, _, _, _, _, _, rfl, _⟩ := h; rfl)
theorem len_Weights_add {K : PySem.W.Frag} : ∀ vs H Q E, sp_Weights_add K vs H Q E → vs.length = 3 := by
  intro vs H Q E h
  first | (obtain ⟨_, rfl, _⟩ := h; rfl) | (obtain ⟨_, _, rfl, _⟩ := h; rfl) | (obtain ⟨_, _, _, rfl, _⟩ := h; rfl) | (obtain ⟨_, _, _, _, rfl, _⟩ := h; rfl) | (obtain ⟨_, _, _, _, _, rfl, _⟩ := h; rfl) | (obtain ⟨_, _, _, _, _, _, rfl, _⟩ := h; rfl) | (obtain ⟨_, _, _, _, _, _, _, rfl, _⟩ := h; rfl) | (obtain ⟨_, _, _, _, _, _, _, _, rfl, _⟩ := h; rfl)
theorem len_Weights_rested {K : PySem.W.Frag} : ∀ vs H Q E, sp_Weights_rested K vs H Q E → vs.length = 2 := by
  intro vs H Q E h
  first | (obtain ⟨_, rfl, _⟩ := h; rfl) | (obtain ⟨_, _, rfl, _⟩ := h; rfl) | (obtain ⟨_, _, _, rfl, _⟩ := h; rfl) | (obtain ⟨_, _, _, _, rfl, _⟩ := h; rfl) | (obtain ⟨_, _, _, _, _, rfl, _⟩ := h; rfl) | (obtain ⟨_, _, _, _, _, _, rfl, _⟩ := h; rfl) | (obtain ⟨_, _, _, _, _, _, _, rfl, _⟩ := h; rfl) | (obtain ⟨_, _, _, _, _, _, _, _, rfl, _⟩ := h; rfl)
theorem len_Weights_came_home {K : PySem.W.Frag} : ∀ vs H Q E, sp_Weights_came_home K vs H Q E → vs.length = 2 := by
  intro vs H Q E h
  first | (obtain ⟨_, rfl, _⟩ := h; rfl) | (obtain ⟨_, _, rfl, _⟩ := h; rfl) | (obtain ⟨_, _, _, rfl, _⟩ := h; rfl) | (obtain ⟨_, _, _, _, rfl, _⟩ := h; rfl) | (obtain ⟨_, _, _, _, _, rfl, _⟩ := h; rfl) | (obtain ⟨_, _, _, _, _, _, rfl, _⟩ := h; rfl) | (obtain ⟨_, _, _, _, _, _, _, rfl, _⟩ := h; rfl) | (obtain ⟨_, _, _, _, _, _, _, _, rfl, _⟩ := h; rfl)
theorem len_Hall_init {K : PySem.W.Frag} : ∀ vs H Q E, sp_Hall_init K vs H Q E → vs.length = 2 := by
  intro vs H Q E h
  first | (obtain ⟨_, rfl, _⟩ := h; rfl) | (obtain ⟨_, _, rfl, _⟩ := h; rfl) | (obtain ⟨_, _, _, rfl, _⟩ := h; rfl) | (obtain ⟨_, _, _, _, rfl, _⟩ := h; rfl) | (obtain ⟨_, _, _, _, _, rfl, _⟩ := h; rfl) | (obtain ⟨_, _, _, _, _, _, rfl, _⟩ := h; rfl) | (obtain ⟨_, _, _, _, _, _, _, rfl, _⟩ := h; rfl) | (obtain ⟨_, _, _, _, _, _, _, _, rfl, _⟩ := h; rfl)
theorem len_Hall_must_be {K : PySem.W.Frag} : ∀ vs H Q E, sp_Hall_must_be K vs H Q E → vs.length = 2 := by
  intro vs H Q E h
  first | (obtain ⟨_, rfl, _⟩ := h; rfl) | (obtain ⟨_, _, rfl, _⟩ := h; rfl) | (obtain ⟨_, _, _, rfl, _⟩ := h; rfl) | (obtain ⟨_, _, _, _, rfl, _⟩ := h; rfl) | (obtain ⟨_, _, _, _, _, rfl, _⟩ := h; rfl) | (obtain ⟨_, _, _, _, _, _, rfl, _⟩ := h; rfl) | (obtain ⟨_, _, _, _, _, _, _, rfl, _⟩ := h; rfl) | (obtain ⟨_, _, _, _, _, _, _, _, rfl, _⟩ := h; rfl)
theorem len_Hall_must_be_two {K : PySem.W.Frag} : ∀ vs H Q E, sp_Hall_must_be_two K vs H Q E → vs.length = 3 := by
  intro vs H Q E h
  first | (obtain ⟨_, rfl, _⟩ := h; rfl) | (obtain ⟨_, _, rfl, _⟩ := h; rfl) | (obtain ⟨_, _, _, rfl, _⟩ := h; rfl) | (obtain ⟨_, _, _, _, rfl, _⟩ := h; rfl) | (obtain ⟨_, _, _, _, _, rfl, _⟩ := h; rfl) | (obtain ⟨_, _, _, _, _, _, rfl, _⟩ := h; rfl) | (obtain ⟨_, _, _, _, _, _, _, rfl, _⟩ := h; rfl) | (obtain ⟨_, _, _, _, _, _, _, _, rfl, _⟩ := h; rfl)
theorem len_Hall_must {K : PySem.W.Frag} : ∀ vs H Q E, sp_Hall_must K vs H Q E → vs.length = 2 := by
  intro vs H Q E h
  first | (obtain ⟨_, rfl, _⟩ := h; rfl) | (obtain ⟨_, _, rfl, _⟩ := h; rfl) | (obtain ⟨_, _, _, rfl, _⟩ := h; rfl) | (obtain ⟨_, _, _, _, rfl, _⟩ := h; rfl) | (obtain ⟨_, _, _, _, _, rfl, _⟩ := h; rfl) | (obtain ⟨_, _, _, _, _, _, rfl, _⟩ := h; rfl) | (obtain ⟨_, _, _, _, _, _, _, rfl, _⟩ := h; rfl) | (obtain ⟨_, _, _, _, _, _, _, _, rfl, _⟩ := h; rfl)
theorem len_Hall_row {K : PySem.W.Frag} : ∀ vs H Q E, sp_Hall_row K vs H Q E → vs.length = 3 := by
  intro vs H Q E h
  first | (obtain ⟨_, rfl, _⟩ := h; rfl) | (obtain ⟨_, _, rfl, _⟩ := h; rfl) | (obtain ⟨_, _, _, rfl, _⟩ := h; rfl) | (obtain ⟨_, _, _, _, rfl, _⟩ := h; rfl) | (obtain ⟨_, _, _, _, _, rfl, _⟩ := h; rfl) | (obtain ⟨_, _, _, _, _, _, rfl, _⟩ := h; rfl) | (obtain ⟨_, _, _, _, _, _, _, rfl, _⟩ := h; rfl) | (obtain ⟨_, _, _, _, _, _, _, _, rfl, _⟩ := h; rfl)
theorem len_Hall_send {K : PySem.W.Frag} : ∀ vs H Q E, sp_Hall_send K vs H Q E → vs.length = 3 := by
  intro vs H Q E h
  first | (obtain ⟨_, rfl, _⟩ := h; rfl) | (obtain ⟨_, _, rfl, _⟩ := h; rfl) | (obtain ⟨_, _, _, rfl, _⟩ := h; rfl) | (obtain ⟨_, _, _, _, rfl, _⟩ := h; rfl) | (obtain ⟨_, _, _, _, _, rfl, _⟩ := h; rfl) | (obtain ⟨_, _, _, _, _, _, rfl, _⟩ := h; rfl) | (obtain ⟨_, _, _, _, _, _, _, rfl, _⟩ := h; rfl) | (obtain ⟨_, _, _, _, _, _, _, _, rfl, _⟩ := h; rfl)
theorem len_Hall_take {K : PySem.W.Frag} : ∀ vs H Q E, sp_Hall_take K vs H Q E → vs.length = 3 := by
  intro vs H Q E h
  first | (obtain ⟨_, rfl, _⟩ := h; rfl) | (obtain ⟨_, _, rfl, _⟩ := h; rfl) | (obtain ⟨_, _, _, rfl, _⟩ := h; rfl) | (obtain ⟨_, _, _, _, rfl, _⟩ := h; rfl) | (obtain ⟨_, _, _, _, _, rfl, _⟩ := h; rfl) | (obtain ⟨_, _, _, _, _, _, rfl, _⟩ := h; rfl) | (obtain ⟨_, _, _, _, _, _, _, rfl, _⟩ := h; rfl) | (obtain ⟨_, _, _, _, _, _, _, _, rfl, _⟩ := h; rfl)
theorem len_Hall_rest {K : PySem.W.Frag} : ∀ vs H Q E, sp_Hall_rest K vs H Q E → vs.length = 2 := by
  intro vs H Q E h
  first | (obtain ⟨_, rfl, _⟩ := h; rfl) | (obtain ⟨_, _, rfl, _⟩ := h; rfl) | (obtain ⟨_, _, _, rfl, _⟩ := h; rfl) | (obtain ⟨_, _, _, _, rfl, _⟩ := h; rfl) | (obtain ⟨_, _, _, _, _, rfl, _⟩ := h; rfl) | (obtain ⟨_, _, _, _, _, _, rfl, _⟩ := h; rfl) | (obtain ⟨_, _, _, _, _, _, _, rfl, _⟩ := h; rfl) | (obtain ⟨_, _, _, _, _, _, _, _, rfl, _⟩ := h; rfl)
theorem len_Hall_back {K : PySem.W.Frag} : ∀ vs H Q E, sp_Hall_back K vs H Q E → vs.length = 3 := by
  intro vs H Q E h
  first | (obtain ⟨_, rfl, _⟩ := h; rfl) | (obtain ⟨_, _, rfl, _⟩ := h; rfl) | (obtain ⟨_, _, _, rfl, _⟩ := h; rfl) | (obtain ⟨_, _, _, _, rfl, _⟩ := h; rfl) | (obtain ⟨_, _, _, _, _, rfl, _⟩ := h; rfl) | (obtain ⟨_, _, _, _, _, _, rfl, _⟩ := h; rfl) | (obtain ⟨_, _, _, _, _, _, _, rfl, _⟩ := h; rfl) | (obtain ⟨_, _, _, _, _, _, _, _, rfl, _⟩ := h; rfl)
theorem len_Hall_home {K : PySem.W.Frag} : ∀ vs H Q E, sp_Hall_home K vs H Q E → vs.length = 2 := by
  intro vs H Q E h
  first | (obtain ⟨_, rfl, _⟩ := h; rfl) | (obtain ⟨_, _, rfl, _⟩ := h; rfl) | (obtain ⟨_, _, _, rfl, _⟩ := h; rfl) | (obtain ⟨_, _, _, _, rfl, _⟩ := h; rfl) | (obtain ⟨_, _, _, _, _, rfl, _⟩ := h; rfl) | (obtain ⟨_, _, _, _, _, _, rfl, _⟩ := h; rfl) | (obtain ⟨_, _, _, _, _, _, _, rfl, _⟩ := h; rfl) | (obtain ⟨_, _, _, _, _, _, _, _, rfl, _⟩ := h; rfl)
theorem len_Hall_pass_on {K : PySem.W.Frag} : ∀ vs H Q E, sp_Hall_pass_on K vs H Q E → vs.length = 1 := by
  intro vs H Q E h
  first | (obtain ⟨_, rfl, _⟩ := h; rfl) | (obtain ⟨_, _, rfl, _⟩ := h; rfl) | (obtain ⟨_, _, _, rfl, _⟩ := h; rfl) | (obtain ⟨_, _, _, _, rfl, _⟩ := h; rfl) | (obtain ⟨_, _, _, _, _, rfl, _⟩ := h; rfl) | (obtain ⟨_, _, _, _, _, _, rfl, _⟩ := h; rfl) | (obtain ⟨_, _, _, _, _, _, _, rfl, _⟩ := h; rfl) | (obtain ⟨_, _, _, _, _, _, _, _, rfl, _⟩ := h; rfl)
theorem len_Hall_working {K : PySem.W.Frag} : ∀ vs H Q E, sp_Hall_working K vs H Q E → vs.length = 1 := by
  intro vs H Q E h
  first | (obtain ⟨_, rfl, _⟩ := h; rfl) | (obtain ⟨_, _, rfl, _⟩ := h; rfl) | (obtain ⟨_, _, _, rfl, _⟩ := h; rfl) | (obtain ⟨_, _, _, _, rfl, _⟩ := h; rfl) | (obtain ⟨_, _, _, _, _, rfl, _⟩ := h; rfl) | (obtain ⟨_, _, _, _, _, _, rfl, _⟩ := h; rfl) | (obtain ⟨_, _, _, _, _, _, _, rfl, _⟩ := h; rfl) | (obtain ⟨_, _, _, _, _, _, _, _, rfl, _⟩ := h; rfl)
theorem len_Hall_works {K : PySem.W.Frag} : ∀ vs H Q E, sp_Hall_works K vs H Q E → vs.length = 3 := by
  intro vs H Q E h
  first | (obtain ⟨_, rfl, _⟩ := h; rfl) | (obtain ⟨_, _, rfl, _⟩ := h; rfl) | (obtain ⟨_, _, _, rfl, _⟩ := h; rfl) | (obtain ⟨_, _, _, _, rfl, _⟩ := h; rfl) | (obtain ⟨_, _, _, _, _, rfl, _⟩ := h; rfl) | (obtain ⟨_, _, _, _, _, _, rfl, _⟩ := h; rfl) | (obtain ⟨_, _, _, _, _, _, _, rfl, _⟩ := h; rfl) | (obtain ⟨_, _, _, _, _, _, _, _, rfl, _⟩ := h; rfl)
theorem len_Hall_is_quiet {K : PySem.W.Frag} : ∀ vs H Q E, sp_Hall_is_quiet K vs H Q E → vs.length = 1 := by
  intro vs H Q E h
  first | (obtain ⟨_, rfl, _⟩ := h; rfl) | (obtain ⟨_, _, rfl, _⟩ := h; rfl) | (obtain ⟨_, _, _, rfl, _⟩ := h; rfl) | (obtain ⟨_, _, _, _, rfl, _⟩ := h; rfl) | (obtain ⟨_, _, _, _, _, rfl, _⟩ := h; rfl) | (obtain ⟨_, _, _, _, _, _, rfl, _⟩ := h; rfl) | (obtain ⟨_, _, _, _, _, _, _, rfl, _⟩ := h; rfl) | (obtain ⟨_, _, _, _, _, _, _, _, rfl, _⟩ := h; rfl)
theorem len_Hall_open_of {K : PySem.W.Frag} : ∀ vs H Q E, sp_Hall_open_of K vs H Q E → vs.length = 2 := by
  intro vs H Q E h
  first | (obtain ⟨_, rfl, _⟩ := h; rfl) | (obtain ⟨_, _, rfl, _⟩ := h; rfl) | (obtain ⟨_, _, _, rfl, _⟩ := h; rfl) | (obtain ⟨_, _, _, _, rfl, _⟩ := h; rfl) | (obtain ⟨_, _, _, _, _, rfl, _⟩ := h; rfl) | (obtain ⟨_, _, _, _, _, _, rfl, _⟩ := h; rfl) | (obtain ⟨_, _, _, _, _, _, _, rfl, _⟩ := h; rfl) | (obtain ⟨_, _, _, _, _, _, _, _, rfl, _⟩ := h; rfl)
theorem len_Hall_above {K : PySem.W.Frag} : ∀ vs H Q E, sp_Hall_above K vs H Q E → vs.length = 2 := by
  intro vs H Q E h
  first | (obtain ⟨_, rfl, _⟩ := h; rfl) | (obtain ⟨_, _, rfl, _⟩ := h; rfl) | (obtain ⟨_, _, _, rfl, _⟩ := h; rfl) | (obtain ⟨_, _, _, _, rfl, _⟩ := h; rfl) | (obtain ⟨_, _, _, _, _, rfl, _⟩ := h; rfl) | (obtain ⟨_, _, _, _, _, _, rfl, _⟩ := h; rfl) | (obtain ⟨_, _, _, _, _, _, _, rfl, _⟩ := h; rfl) | (obtain ⟨_, _, _, _, _, _, _, _, rfl, _⟩ := h; rfl)
theorem len_Hall_receipts {K : PySem.W.Frag} : ∀ vs H Q E, sp_Hall_receipts K vs H Q E → vs.length = 3 := by
  intro vs H Q E h
  first | (obtain ⟨_, rfl, _⟩ := h; rfl) | (obtain ⟨_, _, rfl, _⟩ := h; rfl) | (obtain ⟨_, _, _, rfl, _⟩ := h; rfl) | (obtain ⟨_, _, _, _, rfl, _⟩ := h; rfl) | (obtain ⟨_, _, _, _, _, rfl, _⟩ := h; rfl) | (obtain ⟨_, _, _, _, _, _, rfl, _⟩ := h; rfl) | (obtain ⟨_, _, _, _, _, _, _, rfl, _⟩ := h; rfl) | (obtain ⟨_, _, _, _, _, _, _, _, rfl, _⟩ := h; rfl)
theorem len_Hall_weight_of {K : PySem.W.Frag} : ∀ vs H Q E, sp_Hall_weight_of K vs H Q E → vs.length = 2 := by
  intro vs H Q E h
  first | (obtain ⟨_, rfl, _⟩ := h; rfl) | (obtain ⟨_, _, rfl, _⟩ := h; rfl) | (obtain ⟨_, _, _, rfl, _⟩ := h; rfl) | (obtain ⟨_, _, _, _, rfl, _⟩ := h; rfl) | (obtain ⟨_, _, _, _, _, rfl, _⟩ := h; rfl) | (obtain ⟨_, _, _, _, _, _, rfl, _⟩ := h; rfl) | (obtain ⟨_, _, _, _, _, _, _, rfl, _⟩ := h; rfl) | (obtain ⟨_, _, _, _, _, _, _, _, rfl, _⟩ := h; rfl)
theorem len_Hall_weights_on {K : PySem.W.Frag} : ∀ vs H Q E, sp_Hall_weights_on K vs H Q E → vs.length = 3 := by
  intro vs H Q E h
  first | (obtain ⟨_, rfl, _⟩ := h; rfl) | (obtain ⟨_, _, rfl, _⟩ := h; rfl) | (obtain ⟨_, _, _, rfl, _⟩ := h; rfl) | (obtain ⟨_, _, _, _, rfl, _⟩ := h; rfl) | (obtain ⟨_, _, _, _, _, rfl, _⟩ := h; rfl) | (obtain ⟨_, _, _, _, _, _, rfl, _⟩ := h; rfl) | (obtain ⟨_, _, _, _, _, _, _, rfl, _⟩ := h; rfl) | (obtain ⟨_, _, _, _, _, _, _, _, rfl, _⟩ := h; rfl)
theorem len_Hall_weights_home {K : PySem.W.Frag} : ∀ vs H Q E, sp_Hall_weights_home K vs H Q E → vs.length = 2 := by
  intro vs H Q E h
  first | (obtain ⟨_, rfl, _⟩ := h; rfl) | (obtain ⟨_, _, rfl, _⟩ := h; rfl) | (obtain ⟨_, _, _, rfl, _⟩ := h; rfl) | (obtain ⟨_, _, _, _, rfl, _⟩ := h; rfl) | (obtain ⟨_, _, _, _, _, rfl, _⟩ := h; rfl) | (obtain ⟨_, _, _, _, _, _, rfl, _⟩ := h; rfl) | (obtain ⟨_, _, _, _, _, _, _, rfl, _⟩ := h; rfl) | (obtain ⟨_, _, _, _, _, _, _, _, rfl, _⟩ := h; rfl)
theorem len_Hall_token {K : PySem.W.Frag} : ∀ vs H Q E, sp_Hall_token K vs H Q E → vs.length = 1 := by
  intro vs H Q E h
  first | (obtain ⟨_, rfl, _⟩ := h; rfl) | (obtain ⟨_, _, rfl, _⟩ := h; rfl) | (obtain ⟨_, _, _, rfl, _⟩ := h; rfl) | (obtain ⟨_, _, _, _, rfl, _⟩ := h; rfl) | (obtain ⟨_, _, _, _, _, rfl, _⟩ := h; rfl) | (obtain ⟨_, _, _, _, _, _, rfl, _⟩ := h; rfl) | (obtain ⟨_, _, _, _, _, _, _, rfl, _⟩ := h; rfl) | (obtain ⟨_, _, _, _, _, _, _, _, rfl, _⟩ := h; rfl)
theorem len_Hall_count_of {K : PySem.W.Frag} : ∀ vs H Q E, sp_Hall_count_of K vs H Q E → vs.length = 2 := by
  intro vs H Q E h
  first | (obtain ⟨_, rfl, _⟩ := h; rfl) | (obtain ⟨_, _, rfl, _⟩ := h; rfl) | (obtain ⟨_, _, _, rfl, _⟩ := h; rfl) | (obtain ⟨_, _, _, _, rfl, _⟩ := h; rfl) | (obtain ⟨_, _, _, _, _, rfl, _⟩ := h; rfl) | (obtain ⟨_, _, _, _, _, _, rfl, _⟩ := h; rfl) | (obtain ⟨_, _, _, _, _, _, _, rfl, _⟩ := h; rfl) | (obtain ⟨_, _, _, _, _, _, _, _, rfl, _⟩ := h; rfl)
theorem len_Hall_colour_of {K : PySem.W.Frag} : ∀ vs H Q E, sp_Hall_colour_of K vs H Q E → vs.length = 2 := by
  intro vs H Q E h
  first | (obtain ⟨_, rfl, _⟩ := h; rfl) | (obtain ⟨_, _, rfl, _⟩ := h; rfl) | (obtain ⟨_, _, _, rfl, _⟩ := h; rfl) | (obtain ⟨_, _, _, _, rfl, _⟩ := h; rfl) | (obtain ⟨_, _, _, _, _, rfl, _⟩ := h; rfl) | (obtain ⟨_, _, _, _, _, _, rfl, _⟩ := h; rfl) | (obtain ⟨_, _, _, _, _, _, _, rfl, _⟩ := h; rfl) | (obtain ⟨_, _, _, _, _, _, _, _, rfl, _⟩ := h; rfl)
theorem len_Hall_told {K : PySem.W.Frag} : ∀ vs H Q E, sp_Hall_told K vs H Q E → vs.length = 1 := by
  intro vs H Q E h
  first | (obtain ⟨_, rfl, _⟩ := h; rfl) | (obtain ⟨_, _, rfl, _⟩ := h; rfl) | (obtain ⟨_, _, _, rfl, _⟩ := h; rfl) | (obtain ⟨_, _, _, _, rfl, _⟩ := h; rfl) | (obtain ⟨_, _, _, _, _, rfl, _⟩ := h; rfl) | (obtain ⟨_, _, _, _, _, _, rfl, _⟩ := h; rfl) | (obtain ⟨_, _, _, _, _, _, _, rfl, _⟩ := h; rfl) | (obtain ⟨_, _, _, _, _, _, _, _, rfl, _⟩ := h; rfl)
theorem len_l_cell {K : PySem.W.Frag} : ∀ vs H Q E, sp_l_cell K vs H Q E → vs.length = 2 := by
  intro vs H Q E h
  first | (obtain ⟨_, rfl, _⟩ := h; rfl) | (obtain ⟨_, _, rfl, _⟩ := h; rfl) | (obtain ⟨_, _, _, rfl, _⟩ := h; rfl) | (obtain ⟨_, _, _, _, rfl, _⟩ := h; rfl) | (obtain ⟨_, _, _, _, _, rfl, _⟩ := h; rfl) | (obtain ⟨_, _, _, _, _, _, rfl, _⟩ := h; rfl) | (obtain ⟨_, _, _, _, _, _, _, rfl, _⟩ := h; rfl) | (obtain ⟨_, _, _, _, _, _, _, _, rfl, _⟩ := h; rfl)
theorem len_l_mix {K : PySem.W.Frag} : ∀ vs H Q E, sp_l_mix K vs H Q E → vs.length = 3 := by
  intro vs H Q E h
  first | (obtain ⟨_, rfl, _⟩ := h; rfl) | (obtain ⟨_, _, rfl, _⟩ := h; rfl) | (obtain ⟨_, _, _, rfl, _⟩ := h; rfl) | (obtain ⟨_, _, _, _, rfl, _⟩ := h; rfl) | (obtain ⟨_, _, _, _, _, rfl, _⟩ := h; rfl) | (obtain ⟨_, _, _, _, _, _, rfl, _⟩ := h; rfl) | (obtain ⟨_, _, _, _, _, _, _, rfl, _⟩ := h; rfl) | (obtain ⟨_, _, _, _, _, _, _, _, rfl, _⟩ := h; rfl)
theorem len_l_many {K : PySem.W.Frag} : ∀ vs H Q E, sp_l_many K vs H Q E → vs.length = 1 := by
  intro vs H Q E h
  first | (obtain ⟨_, rfl, _⟩ := h; rfl) | (obtain ⟨_, _, rfl, _⟩ := h; rfl) | (obtain ⟨_, _, _, rfl, _⟩ := h; rfl) | (obtain ⟨_, _, _, _, rfl, _⟩ := h; rfl) | (obtain ⟨_, _, _, _, _, rfl, _⟩ := h; rfl) | (obtain ⟨_, _, _, _, _, _, rfl, _⟩ := h; rfl) | (obtain ⟨_, _, _, _, _, _, _, rfl, _⟩ := h; rfl) | (obtain ⟨_, _, _, _, _, _, _, _, rfl, _⟩ := h; rfl)
theorem len_l_roads {K : PySem.W.Frag} : ∀ vs H Q E, sp_l_roads K vs H Q E → vs.length = 1 := by
  intro vs H Q E h
  first | (obtain ⟨_, rfl, _⟩ := h; rfl) | (obtain ⟨_, _, rfl, _⟩ := h; rfl) | (obtain ⟨_, _, _, rfl, _⟩ := h; rfl) | (obtain ⟨_, _, _, _, rfl, _⟩ := h; rfl) | (obtain ⟨_, _, _, _, _, rfl, _⟩ := h; rfl) | (obtain ⟨_, _, _, _, _, _, rfl, _⟩ := h; rfl) | (obtain ⟨_, _, _, _, _, _, _, rfl, _⟩ := h; rfl) | (obtain ⟨_, _, _, _, _, _, _, _, rfl, _⟩ := h; rfl)
theorem len_l_choices {K : PySem.W.Frag} : ∀ vs H Q E, sp_l_choices K vs H Q E → vs.length = 3 := by
  intro vs H Q E h
  first | (obtain ⟨_, rfl, _⟩ := h; rfl) | (obtain ⟨_, _, rfl, _⟩ := h; rfl) | (obtain ⟨_, _, _, rfl, _⟩ := h; rfl) | (obtain ⟨_, _, _, _, rfl, _⟩ := h; rfl) | (obtain ⟨_, _, _, _, _, rfl, _⟩ := h; rfl) | (obtain ⟨_, _, _, _, _, _, rfl, _⟩ := h; rfl) | (obtain ⟨_, _, _, _, _, _, _, rfl, _⟩ := h; rfl) | (obtain ⟨_, _, _, _, _, _, _, _, rfl, _⟩ := h; rfl)
theorem len_l_act {K : PySem.W.Frag} : ∀ vs H Q E, sp_l_act K vs H Q E → vs.length = 3 := by
  intro vs H Q E h
  first | (obtain ⟨_, rfl, _⟩ := h; rfl) | (obtain ⟨_, _, rfl, _⟩ := h; rfl) | (obtain ⟨_, _, _, rfl, _⟩ := h; rfl) | (obtain ⟨_, _, _, _, rfl, _⟩ := h; rfl) | (obtain ⟨_, _, _, _, _, rfl, _⟩ := h; rfl) | (obtain ⟨_, _, _, _, _, _, rfl, _⟩ := h; rfl) | (obtain ⟨_, _, _, _, _, _, _, rfl, _⟩ := h; rfl) | (obtain ⟨_, _, _, _, _, _, _, _, rfl, _⟩ := h; rfl)
theorem len_l_do {K : PySem.W.Frag} : ∀ vs H Q E, sp_l_do K vs H Q E → vs.length = 2 := by
  intro vs H Q E h
  first | (obtain ⟨_, rfl, _⟩ := h; rfl) | (obtain ⟨_, _, rfl, _⟩ := h; rfl) | (obtain ⟨_, _, _, rfl, _⟩ := h; rfl) | (obtain ⟨_, _, _, _, rfl, _⟩ := h; rfl) | (obtain ⟨_, _, _, _, _, rfl, _⟩ := h; rfl) | (obtain ⟨_, _, _, _, _, _, rfl, _⟩ := h; rfl) | (obtain ⟨_, _, _, _, _, _, _, rfl, _⟩ := h; rfl) | (obtain ⟨_, _, _, _, _, _, _, _, rfl, _⟩ := h; rfl)
theorem len_l_play {K : PySem.W.Frag} : ∀ vs H Q E, sp_l_play K vs H Q E → vs.length = 3 := by
  intro vs H Q E h
  first | (obtain ⟨_, rfl, _⟩ := h; rfl) | (obtain ⟨_, _, rfl, _⟩ := h; rfl) | (obtain ⟨_, _, _, rfl, _⟩ := h; rfl) | (obtain ⟨_, _, _, _, rfl, _⟩ := h; rfl) | (obtain ⟨_, _, _, _, _, rfl, _⟩ := h; rfl) | (obtain ⟨_, _, _, _, _, _, rfl, _⟩ := h; rfl) | (obtain ⟨_, _, _, _, _, _, _, rfl, _⟩ := h; rfl) | (obtain ⟨_, _, _, _, _, _, _, _, rfl, _⟩ := h; rfl)
theorem len_l_shown {K : PySem.W.Frag} : ∀ vs H Q E, sp_l_shown K vs H Q E → vs.length = 2 := by
  intro vs H Q E h
  first | (obtain ⟨_, rfl, _⟩ := h; rfl) | (obtain ⟨_, _, rfl, _⟩ := h; rfl) | (obtain ⟨_, _, _, rfl, _⟩ := h; rfl) | (obtain ⟨_, _, _, _, rfl, _⟩ := h; rfl) | (obtain ⟨_, _, _, _, _, rfl, _⟩ := h; rfl) | (obtain ⟨_, _, _, _, _, _, rfl, _⟩ := h; rfl) | (obtain ⟨_, _, _, _, _, _, _, rfl, _⟩ := h; rfl) | (obtain ⟨_, _, _, _, _, _, _, _, rfl, _⟩ := h; rfl)
theorem len_l_can {K : PySem.W.Frag} : ∀ vs H Q E, sp_l_can K vs H Q E → vs.length = 4 := by
  intro vs H Q E h
  first | (obtain ⟨_, rfl, _⟩ := h; rfl) | (obtain ⟨_, _, rfl, _⟩ := h; rfl) | (obtain ⟨_, _, _, rfl, _⟩ := h; rfl) | (obtain ⟨_, _, _, _, rfl, _⟩ := h; rfl) | (obtain ⟨_, _, _, _, _, rfl, _⟩ := h; rfl) | (obtain ⟨_, _, _, _, _, _, rfl, _⟩ := h; rfl) | (obtain ⟨_, _, _, _, _, _, _, rfl, _⟩ := h; rfl) | (obtain ⟨_, _, _, _, _, _, _, _, rfl, _⟩ := h; rfl)
theorem len_law {K : PySem.W.Frag} : ∀ vs H Q E, sp_law K vs H Q E → vs.length = 1 := by
  intro vs H Q E h
  first | (obtain ⟨_, rfl, _⟩ := h; rfl) | (obtain ⟨_, _, rfl, _⟩ := h; rfl) | (obtain ⟨_, _, _, rfl, _⟩ := h; rfl) | (obtain ⟨_, _, _, _, rfl, _⟩ := h; rfl) | (obtain ⟨_, _, _, _, _, rfl, _⟩ := h; rfl) | (obtain ⟨_, _, _, _, _, _, rfl, _⟩ := h; rfl) | (obtain ⟨_, _, _, _, _, _, _, rfl, _⟩ := h; rfl) | (obtain ⟨_, _, _, _, _, _, _, _, rfl, _⟩ := h; rfl)
section
variable {P : Program} {w : World} {K : PySem.W.Frag} {mg : Str → Option Value} {base : Heap}
theorem sc_Ring_init : FnScope N_Ring_init ["self", "many"] (defScope s_Ring_init) := ⟨rfl, rfl, rfl, by decide +kernel, rfl, by decide +kernel, by decide +kernel⟩
theorem ok_Ring_init (T : Txt2 K mg) (D : Df K "__init__" "Ring.__init__" s_Ring_init (He.ma K (He.ga K "Ring") "__init__"))  : IOk P w K mg base "Ring" ["self", "many"] 1 (sp_Ring_init K) := by
  refine ⟨?fn⟩
  refine fn_by (t := t_Ring_init K) D sc_Ring_init len_Ring_init (fun _ _ _ _ _ _ us hl => match us, hl with | [_, _], _ => rfl) (fun cdv A outer s0 H E hr => ?_) (pur_Ring_init T.toTxt.toTxtK)
  exact (pss_cons (ps_fld (pv 0) (pv 1) rfl)
      (pss_cons (ps_fld (pv 0) (pe_lc (own := [("hand", 2)]) (g := (gName 2)) (tt := tYes) (te := (tC (.int 0))) rfl sc_Ring_init.nd (pi_range1 rfl T.range (pa_cons (pv 1) pa_nil)) (blkOk_by (own := [("hand", 2)]) (N := N_Ring_init) (sc := defScope s_Ring_init) (by decide +kernel)) (fun _ _ _ _ _ => (pg_name (i := 2) sc_Ring_init.nd rfl (by first | exact Or.inl rfl | exact Or.inr rfl))) (fun _ _ _ _ _ => pts_nil) (fun _ _ _ _ _ => pe_int)) rfl)
      (pss_cons (ps_fld (pv 0) (pe_lc (own := [("hand", 2)]) (g := (gName 2)) (tt := tYes) (te := (tC (.str "white"))) rfl sc_Ring_init.nd (pi_range1 rfl T.range (pa_cons (pv 1) pa_nil)) (blkOk_by (own := [("hand", 2)]) (N := N_Ring_init) (sc := defScope s_Ring_init) (by decide +kernel)) (fun _ _ _ _ _ => (pg_name (i := 2) sc_Ring_init.nd rfl (by first | exact Or.inl rfl | exact Or.inr rfl))) (fun _ _ _ _ _ => pts_nil) (fun _ _ _ _ _ => pe_str)) rfl)
      (pss_cons (ps_fld (pv 0) pe_int rfl)
      (pss_cons (ps_fld (pv 0) pe_int rfl)
      (pss_cons (ps_fld (pv 0) pe_str rfl)
      (pss_cons (ps_fld (pv 0) pe_bl rfl)
      (pss_one (ps_fld (pv 0) pe_bl rfl)))))))))
theorem sc_Ring_sent : FnScope N_Ring_sent ["self", "one"] (defScope s_Ring_sent) := ⟨rfl, rfl, rfl, by decide +kernel, rfl, by decide +kernel, by decide +kernel⟩
theorem ok_Ring_sent (T : Txt2 K mg) (mt : Meth K (He.ga K "Ring") "sent" (He.ma K (He.ga K "Ring") "sent")) (D : Df K "sent" "Ring.sent" s_Ring_sent (He.ma K (He.ga K "Ring") "sent"))  : MOk P w K mg base "Ring" "sent" ["self", "one"] 1 (sp_Ring_sent K) := by
  refine ⟨mt, ?fn⟩
  refine fn_by (t := t_Ring_sent K) D sc_Ring_sent len_Ring_sent (fun _ _ _ _ _ _ us hl => match us, hl with | [_, _], _ => rfl) (fun cdv A outer s0 H E hr => ?_) (pur_Ring_sent T.toTxt.toTxtK)
  exact (pss_one (ps_asg (pe_op op_add (pe_ix ix_list (pe_fld (pv 0) rfl) (pv 1) (fun _ _ => rfl)) pe_int) (pg_sub (pe_fld (pv 0) rfl) (pv 1) set_list)))
theorem sc_Ring_taken : FnScope N_Ring_taken ["self", "other"] (defScope s_Ring_taken) := ⟨rfl, rfl, rfl, by decide +kernel, rfl, by decide +kernel, by decide +kernel⟩
theorem ok_Ring_taken (T : Txt2 K mg) (mt : Meth K (He.ga K "Ring") "taken" (He.ma K (He.ga K "Ring") "taken")) (D : Df K "taken" "Ring.taken" s_Ring_taken (He.ma K (He.ga K "Ring") "taken"))  : MOk P w K mg base "Ring" "taken" ["self", "other"] 1 (sp_Ring_taken K) := by
  refine ⟨mt, ?fn⟩
  refine fn_by (t := t_Ring_taken K) D sc_Ring_taken len_Ring_taken (fun _ _ _ _ _ _ us hl => match us, hl with | [_, _], _ => rfl) (fun cdv A outer s0 H E hr => ?_) (pur_Ring_taken T.toTxt.toTxtK)
  exact (pss_cons (ps_asg (pe_op op_sub (pe_ix ix_list (pe_fld (pv 0) rfl) (pv 1) (fun _ _ => rfl)) pe_int) (pg_sub (pe_fld (pv 0) rfl) (pv 1) set_list))
      (pss_one (ps_asg pe_str (pg_sub (pe_fld (pv 0) rfl) (pv 1) set_list))))
theorem sc_Ring_passed : FnScope N_Ring_passed ["self"] (defScope s_Ring_passed) := ⟨rfl, rfl, rfl, by decide +kernel, rfl, by decide +kernel, by decide +kernel⟩
theorem ok_Ring_passed (T : Txt2 K mg) (mt : Meth K (He.ga K "Ring") "passed" (He.ma K (He.ga K "Ring") "passed")) (D : Df K "passed" "Ring.passed" s_Ring_passed (He.ma K (He.ga K "Ring") "passed"))  : MOk P w K mg base "Ring" "passed" ["self"] 1 (sp_Ring_passed K) := by
  refine ⟨mt, ?fn⟩
  refine fn_by (t := t_Ring_passed K) D sc_Ring_passed len_Ring_passed (fun _ _ _ _ _ _ us hl => match us, hl with | [_], _ => rfl) (fun cdv A outer s0 H E hr => ?_) (pur_Ring_passed T.toTxt.toTxtK)
  exact (pss_cons (ps_set (i := 1) sc_Ring_passed.nd rfl (by first | exact Or.inl rfl | exact Or.inr rfl) (pe_fld (pv 0) rfl))
      (pss_cons (ps_if (pt_cmpR op_eq (pv 1) pe_int (nomark _)) (pss_cons (ps_set (i := 2) sc_Ring_passed.nd rfl (by first | exact Or.inl rfl | exact Or.inr rfl) (pe_and (pe_cmpR op_eq (pe_fld (pv 0) rfl) pe_str (nomark _)) (pe_one (pe_cmpR op_eq (pe_ix ix_list (pe_fld (pv 0) rfl) pe_int (fun _ _ => rfl)) pe_str (nomark _)))))
      (pss_cons (ps_if (PW.pt (pw_and (pt_val (pe_fld (pv 0) rfl)) (pw_and (pt_val (pv 2)) (pw_and1 (pt_cmpR op_eq (pe_op op_add (pe_fld (pv 0) rfl) (pe_ix ix_list (pe_fld (pv 0) rfl) pe_int (fun _ _ => rfl))) pe_int (nomark _)))))) (pss_one (ps_fld (pv 0) pe_bl rfl)) pss_nil)
      (pss_cons (ps_fld (pv 0) pe_bl rfl)
      (pss_cons (ps_fld (pv 0) pe_int rfl)
      (pss_cons (ps_fld (pv 0) pe_str rfl)
      (pss_one (ps_fld (pv 0) (pe_op op_sub (pe_fld (pv 0) rfl) pe_int) rfl))))))) (pss_cons (ps_fld (pv 0) (pe_op op_add (pe_fld (pv 0) rfl) (pe_ix ix_list (pe_fld (pv 0) rfl) (pv 1) (fun _ _ => rfl))) rfl)
      (pss_cons (ps_if (pt_cmpR op_eq (pe_ix ix_list (pe_fld (pv 0) rfl) (pv 1) (fun _ _ => rfl)) pe_str (nomark _)) (pss_one (ps_fld (pv 0) pe_str rfl)) pss_nil)
      (pss_one (ps_fld (pv 0) (pe_op op_sub (pv 1) pe_int) rfl)))))
      (pss_one (ps_asg pe_str (pg_sub (pe_fld (pv 0) rfl) (pv 1) set_list)))))
theorem sc_Tree_init : FnScope N_Tree_init ["self", "many"] (defScope s_Tree_init) := ⟨rfl, rfl, rfl, by decide +kernel, rfl, by decide +kernel, by decide +kernel⟩
theorem ok_Tree_init (T : Txt2 K mg) (D : Df K "__init__" "Tree.__init__" s_Tree_init (He.ma K (He.ga K "Tree") "__init__"))  : IOk P w K mg base "Tree" ["self", "many"] 1 (sp_Tree_init K) := by
  refine ⟨?fn⟩
  refine fn_by (t := t_Tree_init K) D sc_Tree_init len_Tree_init (fun _ _ _ _ _ _ us hl => match us, hl with | [_, _], _ => rfl) (fun cdv A outer s0 H E hr => ?_) (pur_Tree_init T.toTxt.toTxtK)
  exact (pss_cons (ps_fld (pv 0) (pe_lc (own := [("hand", 2)]) (g := (gName 2)) (tt := tYes) (te := (tC (.int 0))) rfl sc_Tree_init.nd (pi_range1 rfl T.range (pa_cons (pv 1) pa_nil)) (blkOk_by (own := [("hand", 2)]) (N := N_Tree_init) (sc := defScope s_Tree_init) (by decide +kernel)) (fun _ _ _ _ _ => (pg_name (i := 2) sc_Tree_init.nd rfl (by first | exact Or.inl rfl | exact Or.inr rfl))) (fun _ _ _ _ _ => pts_nil) (fun _ _ _ _ _ => pe_int)) rfl)
      (pss_cons (ps_fld (pv 0) (pe_lc (own := [("hand", 2)]) (g := (gName 2)) (tt := tYes) (te := (tC .non)) rfl sc_Tree_init.nd (pi_range1 rfl T.range (pa_cons (pv 1) pa_nil)) (blkOk_by (own := [("hand", 2)]) (N := N_Tree_init) (sc := defScope s_Tree_init) (by decide +kernel)) (fun _ _ _ _ _ => (pg_name (i := 2) sc_Tree_init.nd rfl (by first | exact Or.inl rfl | exact Or.inr rfl))) (fun _ _ _ _ _ => pts_nil) (fun _ _ _ _ _ => pe_non)) rfl)
      (pss_one (ps_fld (pv 0) pe_dnewT rfl))))
theorem sc_Tree_is_in : FnScope N_Tree_is_in ["self", "hand"] (defScope s_Tree_is_in) := ⟨rfl, rfl, rfl, by decide +kernel, rfl, by decide +kernel, by decide +kernel⟩
theorem ok_Tree_is_in (T : Txt2 K mg) (mt : Meth K (He.ga K "Tree") "is_in" (He.ma K (He.ga K "Tree") "is_in")) (D : Df K "is_in" "Tree.is_in" s_Tree_is_in (He.ma K (He.ga K "Tree") "is_in"))  : MOk P w K mg base "Tree" "is_in" ["self", "hand"] 1 (sp_Tree_is_in K) := by
  refine ⟨mt, ?fn⟩
  refine fn_by (t := t_Tree_is_in K) D sc_Tree_is_in len_Tree_is_in (fun _ _ _ _ _ _ us hl => match us, hl with | [_, _], _ => rfl) (fun cdv A outer s0 H E hr => ?_) (pur_Tree_is_in T.toTxt.toTxtK)
  exact (pss_one (ps_ret (pe_or (pe_cmpR op_eq (pv 1) pe_int (nomark _)) (pe_one (pe_cmp (pc_notN (pe_ix ix_list (pe_fld (pv 0) rfl) (pv 1) (fun _ _ => rfl))))))))
theorem sc_Tree_slip : FnScope N_Tree_slip ["self", "one", "other"] (defScope s_Tree_slip) := ⟨rfl, rfl, rfl, by decide +kernel, rfl, by decide +kernel, by decide +kernel⟩
theorem ok_Tree_slip (T : Txt2 K mg) (mt : Meth K (He.ga K "Tree") "slip" (He.ma K (He.ga K "Tree") "slip")) (D : Df K "slip" "Tree.slip" s_Tree_slip (He.ma K (He.ga K "Tree") "slip"))  : MOk P w K mg base "Tree" "slip" ["self", "one", "other"] 1 (sp_Tree_slip K) := by
  refine ⟨mt, ?fn⟩
  refine fn_by (t := t_Tree_slip K) D sc_Tree_slip len_Tree_slip (fun _ _ _ _ _ _ us hl => match us, hl with | [_, _, _], _ => rfl) (fun cdv A outer s0 H E hr => ?_) (pur_Tree_slip T.toTxt.toTxtK)
  have hu := hu_of hr
  exact (pss_one (ps_dput hu (pe_fld (pv 0) rfl) (pe_tup (pa_cons (pv 1) (pa_cons (pv 2) pa_nil))) (pe_op op_add (pe_dget2 hu (pe_fld (pv 0) rfl) (pe_tup (pa_cons (pv 1) (pa_cons (pv 2) pa_nil))) pe_int ⟨rfl, rfl, rfl, rfl⟩) pe_int) rfl))
theorem sc_Tree_sent : FnScope N_Tree_sent ["self", "one"] (defScope s_Tree_sent) := ⟨rfl, rfl, rfl, by decide +kernel, rfl, by decide +kernel, by decide +kernel⟩
theorem ok_Tree_sent (T : Txt2 K mg) (mt : Meth K (He.ga K "Tree") "sent" (He.ma K (He.ga K "Tree") "sent")) (D : Df K "sent" "Tree.sent" s_Tree_sent (He.ma K (He.ga K "Tree") "sent"))  : MOk P w K mg base "Tree" "sent" ["self", "one"] 1 (sp_Tree_sent K) := by
  refine ⟨mt, ?fn⟩
  refine fn_by (t := t_Tree_sent K) D sc_Tree_sent len_Tree_sent (fun _ _ _ _ _ _ us hl => match us, hl with | [_, _], _ => rfl) (fun cdv A outer s0 H E hr => ?_) (pur_Tree_sent T.toTxt.toTxtK)
  exact (pss_one (ps_asg (pe_op op_add (pe_ix ix_list (pe_fld (pv 0) rfl) (pv 1) (fun _ _ => rfl)) pe_int) (pg_sub (pe_fld (pv 0) rfl) (pv 1) set_list)))
theorem sc_Tree_taken : FnScope N_Tree_taken ["self", "one", "other"] (defScope s_Tree_taken) := ⟨rfl, rfl, rfl, by decide +kernel, rfl, by decide +kernel, by decide +kernel⟩
theorem ok_Tree_taken (T : Txt2 K mg) (mt : Meth K (He.ga K "Tree") "taken" (He.ma K (He.ga K "Tree") "taken")) (D : Df K "taken" "Tree.taken" s_Tree_taken (He.ma K (He.ga K "Tree") "taken")) (G_Tree_is_in : MOk P w K mg base "Tree" "is_in" ["self", "hand"] 1 (sp_Tree_is_in K)) (G_Tree_slip : MOk P w K mg base "Tree" "slip" ["self", "one", "other"] 1 (sp_Tree_slip K)) : MOk P w K mg base "Tree" "taken" ["self", "one", "other"] 2 (sp_Tree_taken K) := by
  refine ⟨mt, ?fn⟩
  refine fn_by (t := t_Tree_taken K) D sc_Tree_taken len_Tree_taken (fun _ _ _ _ _ _ us hl => match us, hl with | [_, _, _], _ => rfl) (fun cdv A outer s0 H E hr => ?_) (pur_Tree_taken T.toTxt.toTxtK)
  exact (pss_one (ps_if (pt_val (pe_m (pv 0) T.clTree G_Tree_is_in (hr.mono (by decide)) (pa_cons (pv 2) pa_nil))) (pss_one (ps_expr (pe_m (pv 0) T.clTree G_Tree_slip (hr.mono (by decide)) (pa_cons (pv 1) (pa_cons (pv 2) pa_nil))))) (pss_one (ps_asg (pv 1) (pg_sub (pe_fld (pv 0) rfl) (pv 2) set_list)))))
theorem sc_Tree_settle : FnScope N_Tree_settle ["self", "hand", "works"] (defScope s_Tree_settle) := ⟨rfl, rfl, rfl, by decide +kernel, rfl, by decide +kernel, by decide +kernel⟩
theorem ok_Tree_settle (T : Txt2 K mg) (mt : Meth K (He.ga K "Tree") "settle" (He.ma K (He.ga K "Tree") "settle")) (D : Df K "settle" "Tree.settle" s_Tree_settle (He.ma K (He.ga K "Tree") "settle")) (G_Tree_is_in : MOk P w K mg base "Tree" "is_in" ["self", "hand"] 1 (sp_Tree_is_in K)) (G_Tree_slip : MOk P w K mg base "Tree" "slip" ["self", "one", "other"] 1 (sp_Tree_slip K)) : MOk P w K mg base "Tree" "settle" ["self", "hand", "works"] 2 (sp_Tree_settle K) := by
  refine ⟨mt, ?fn⟩
  refine fn_by (t := t_Tree_settle K) D sc_Tree_settle len_Tree_settle (fun _ _ _ _ _ _ us hl => match us, hl with | [_, _, _], _ => rfl) (fun cdv A outer s0 H E hr => ?_) (pur_Tree_settle T.toTxt.toTxtK)
  exact (pss_one (ps_if (PW.pt (pw_and (pt_cmpR op_gt (pv 1) pe_int (nomark _)) (pw_and (pt_val (pe_m (pv 0) T.clTree G_Tree_is_in (hr.mono (by decide)) (pa_cons (pv 1) pa_nil))) (pw_and (pt_not (pt_val (pv 2))) (pw_and1 (pt_cmpR op_eq (pe_ix ix_list (pe_fld (pv 0) rfl) (pv 1) (fun _ _ => rfl)) pe_int (nomark _))))))) (pss_cons (ps_expr (pe_m (pv 0) T.clTree G_Tree_slip (hr.mono (by decide)) (pa_cons (pe_ix ix_list (pe_fld (pv 0) rfl) (pv 1) (fun _ _ => rfl)) (pa_cons (pv 1) pa_nil))))
      (pss_one (ps_asg pe_non (pg_sub (pe_fld (pv 0) rfl) (pv 1) set_list)))) pss_nil))
theorem sc_Tree_came_back : FnScope N_Tree_came_back ["self", "one", "other"] (defScope s_Tree_came_back) := ⟨rfl, rfl, rfl, by decide +kernel, rfl, by decide +kernel, by decide +kernel⟩
theorem ok_Tree_came_back (T : Txt2 K mg) (mt : Meth K (He.ga K "Tree") "came_back" (He.ma K (He.ga K "Tree") "came_back")) (D : Df K "came_back" "Tree.came_back" s_Tree_came_back (He.ma K (He.ga K "Tree") "came_back"))  : MOk P w K mg base "Tree" "came_back" ["self", "one", "other"] 1 (sp_Tree_came_back K) := by
  refine ⟨mt, ?fn⟩
  refine fn_by (t := t_Tree_came_back K) D sc_Tree_came_back len_Tree_came_back (fun _ _ _ _ _ _ us hl => match us, hl with | [_, _, _], _ => rfl) (fun cdv A outer s0 H E hr => ?_) (pur_Tree_came_back T.toTxt.toTxtK)
  have hu := hu_of hr
  exact (pss_cons (ps_dput hu (pe_fld (pv 0) rfl) (pe_tup (pa_cons (pv 1) (pa_cons (pv 2) pa_nil))) (pe_op op_sub (pe_dget hu (pe_fld (pv 0) rfl) (pe_tup (pa_cons (pv 1) (pa_cons (pv 2) pa_nil))) (fun _ _ => rfl)) pe_int) rfl)
      (pss_one (ps_asg (pe_op op_sub (pe_ix ix_list (pe_fld (pv 0) rfl) (pv 1) (fun _ _ => rfl)) pe_int) (pg_sub (pe_fld (pv 0) rfl) (pv 1) set_list))))
theorem sc_normal : FnScope N_normal ["upper", "power"] (defScope s_normal) := ⟨rfl, rfl, rfl, by decide +kernel, rfl, by decide +kernel, by decide +kernel⟩
theorem ok_normal (T : Txt2 K mg) (gl : mg "normal" = some (.ref (He.ga K "normal"))) (D : Df K "normal" "normal" s_normal (He.ga K "normal"))  : FOk P w K mg base "normal" ["upper", "power"] 1 (sp_normal K) := by
  refine ⟨gl, ?fn, Df.kp D⟩
  refine fn_by (t := t_normal K) D sc_normal len_normal (fun _ _ _ _ _ _ us hl => match us, hl with | [_, _], _ => rfl) (fun cdv A outer s0 H E hr => ?_) (pur_normal T.toTxt.toTxtK)
  exact (pss_cons (ps_if (pt_cmpR op_eq (pv 0) pe_int (nomark _)) (pss_one (ps_ret (pe_tup (pa_cons pe_int (pa_cons pe_int pa_nil))))) pss_nil)
      (pss_cons (ps_while PassesOwn.never (PW.pt (pw_and (pt_cmpR op_gt (pv 1) pe_int (nomark _)) (pw_and1 (pt_cmpR op_eq (pe_op op_mod (pv 0) pe_int) pe_int (nomark _))))) (pss_cons (ps_set (i := 0) sc_normal.nd rfl (by first | exact Or.inl rfl | exact Or.inr rfl) (pe_op op_fdiv (pv 0) pe_int))
      (pss_one (ps_set (i := 1) sc_normal.nd rfl (by first | exact Or.inl rfl | exact Or.inr rfl) (pe_op op_sub (pv 1) pe_int)))))
      (pss_one (ps_ret (pe_tup (pa_cons (pv 0) (pa_cons (pv 1) pa_nil)))))))
theorem sc_half : FnScope N_half ["weight"] (defScope s_half) := ⟨rfl, rfl, rfl, by decide +kernel, rfl, by decide +kernel, by decide +kernel⟩
theorem ok_half (T : Txt2 K mg) (gl : mg "half" = some (.ref (He.ga K "half"))) (D : Df K "half" "half" s_half (He.ga K "half")) (G_normal : FOk P w K mg base "normal" ["upper", "power"] 1 (sp_normal K)) : FOk P w K mg base "half" ["weight"] 2 (sp_half K) := by
  refine ⟨gl, ?fn, Df.kp D⟩
  refine fn_by (t := t_half K) D sc_half len_half (fun _ _ _ _ _ _ us hl => match us, hl with | [_], _ => rfl) (fun cdv A outer s0 H E hr => ?_) (pur_half T.toTxt.toTxtK)
  exact (pss_cons (ps_if (pt_cmpR op_eq (pe_ix ix_tup (pv 0) pe_int (fun _ _ => rfl)) pe_int (nomark _)) (pss_one (ps_ret (pe_tup (pa_cons pe_int (pa_cons pe_int pa_nil))))) pss_nil)
      (pss_one (ps_ret (pe_f G_normal (hr.mono (by decide)) (by rfl) (pa_cons (pe_ix ix_tup (pv 0) pe_int (fun _ _ => rfl)) (pa_cons (pe_op op_add (pe_ix ix_tup (pv 0) pe_int (fun _ _ => rfl)) pe_int) pa_nil))))))
theorem sc_plus : FnScope N_plus ["one", "other"] (defScope s_plus) := ⟨rfl, rfl, rfl, by decide +kernel, rfl, by decide +kernel, by decide +kernel⟩
theorem ok_plus (T : Txt2 K mg) (gl : mg "plus" = some (.ref (He.ga K "plus"))) (D : Df K "plus" "plus" s_plus (He.ga K "plus")) (G_normal : FOk P w K mg base "normal" ["upper", "power"] 1 (sp_normal K)) : FOk P w K mg base "plus" ["one", "other"] 2 (sp_plus K) := by
  refine ⟨gl, ?fn, Df.kp D⟩
  refine fn_by (t := t_plus K) D sc_plus len_plus (fun _ _ _ _ _ _ us hl => match us, hl with | [_, _], _ => rfl) (fun cdv A outer s0 H E hr => ?_) (pur_plus T.toTxt.toTxtK)
  exact (pss_cons (ps_set (i := 2) sc_plus.nd rfl (by first | exact Or.inl rfl | exact Or.inr rfl) (pe_callB (call_max2 rfl) (by rfl) T.max (by decide +kernel) (pa_cons (pe_ix ix_tup (pv 0) pe_int (fun _ _ => rfl)) (pa_cons (pe_ix ix_tup (pv 1) pe_int (fun _ _ => rfl)) pa_nil))))
      (pss_one (ps_ret (pe_f G_normal (hr.mono (by decide)) (by rfl) (pa_cons (pe_op op_add (pe_op op_shl (pe_ix ix_tup (pv 0) pe_int (fun _ _ => rfl)) (pe_op op_sub (pv 2) (pe_ix ix_tup (pv 0) pe_int (fun _ _ => rfl)))) (pe_op op_shl (pe_ix ix_tup (pv 1) pe_int (fun _ _ => rfl)) (pe_op op_sub (pv 2) (pe_ix ix_tup (pv 1) pe_int (fun _ _ => rfl))))) (pa_cons (pv 2) pa_nil))))))
theorem sc_Weights_init : FnScope N_Weights_init ["self", "many"] (defScope s_Weights_init) := ⟨rfl, rfl, rfl, by decide +kernel, rfl, by decide +kernel, by decide +kernel⟩
theorem ok_Weights_init (T : Txt2 K mg) (D : Df K "__init__" "Weights.__init__" s_Weights_init (He.ma K (He.ga K "Weights") "__init__"))  : IOk P w K mg base "Weights" ["self", "many"] 1 (sp_Weights_init K) := by
  refine ⟨?fn⟩
  refine fn_by (t := t_Weights_init K) D sc_Weights_init len_Weights_init (fun _ _ _ _ _ _ us hl => match us, hl with | [_, _], _ => rfl) (fun cdv A outer s0 H E hr => ?_) (pur_Weights_init T.toTxt.toTxtK)
  exact (pss_cons (ps_fld (pv 0) (pe_lc (own := [("hand", 2)]) (g := (gName 2)) (tt := tYes) (te := (tTup (tCons (tC (.int 0)) (tCons (tC (.int 0)) tNil)))) rfl sc_Weights_init.nd (pi_range1 rfl T.range (pa_cons (pv 1) pa_nil)) (blkOk_by (own := [("hand", 2)]) (N := N_Weights_init) (sc := defScope s_Weights_init) (by decide +kernel)) (fun _ _ _ _ _ => (pg_name (i := 2) sc_Weights_init.nd rfl (by first | exact Or.inl rfl | exact Or.inr rfl))) (fun _ _ _ _ _ => pts_nil) (fun _ _ _ _ _ => (pe_tup (pa_cons pe_int (pa_cons pe_int pa_nil))))) rfl)
      (pss_cons (ps_asg (pe_tup (pa_cons pe_int (pa_cons pe_int pa_nil))) (pg_sub (pe_fld (pv 0) rfl) pe_int set_list))
      (pss_one (ps_fld (pv 0) (pe_lc (own := [("hand", 2)]) (g := (gName 2)) (tt := tYes) (te := (tLst tNil)) rfl sc_Weights_init.nd (pi_range1 rfl T.range (pa_cons (pv 1) pa_nil)) (blkOk_by (own := [("hand", 2)]) (N := N_Weights_init) (sc := defScope s_Weights_init) (by decide +kernel)) (fun _ _ _ _ _ => (pg_name (i := 2) sc_Weights_init.nd rfl (by first | exact Or.inl rfl | exact Or.inr rfl))) (fun _ _ _ _ _ => pts_nil) (fun _ _ _ _ _ => (pe_lst pa_nil))) rfl))))
theorem sc_Weights_split : FnScope N_Weights_split ["self", "hand"] (defScope s_Weights_split) := ⟨rfl, rfl, rfl, by decide +kernel, rfl, by decide +kernel, by decide +kernel⟩
theorem ok_Weights_split (T : Txt2 K mg) (mt : Meth K (He.ga K "Weights") "split" (He.ma K (He.ga K "Weights") "split")) (D : Df K "split" "Weights.split" s_Weights_split (He.ma K (He.ga K "Weights") "split")) (G_half : FOk P w K mg base "half" ["weight"] 2 (sp_half K)) : MOk P w K mg base "Weights" "split" ["self", "hand"] 3 (sp_Weights_split K) := by
  refine ⟨mt, ?fn⟩
  refine fn_by (t := t_Weights_split K) D sc_Weights_split len_Weights_split (fun _ _ _ _ _ _ us hl => match us, hl with | [_, _], _ => rfl) (fun cdv A outer s0 H E hr => ?_) (pur_Weights_split T.toTxt.toTxtK)
  exact (pss_cons (ps_asg (pe_f G_half (hr.mono (by decide)) (by rfl) (pa_cons (pe_ix ix_list (pe_fld (pv 0) rfl) (pv 1) (fun _ _ => rfl)) pa_nil)) (pg_sub (pe_fld (pv 0) rfl) (pv 1) set_list))
      (pss_one (ps_ret (pe_ix ix_list (pe_fld (pv 0) rfl) (pv 1) (fun _ _ => rfl)))))
theorem sc_Weights_add : FnScope N_Weights_add ["self", "hand", "weight"] (defScope s_Weights_add) := ⟨rfl, rfl, rfl, by decide +kernel, rfl, by decide +kernel, by decide +kernel⟩
theorem ok_Weights_add (T : Txt2 K mg) (mt : Meth K (He.ga K "Weights") "add" (He.ma K (He.ga K "Weights") "add")) (D : Df K "add" "Weights.add" s_Weights_add (He.ma K (He.ga K "Weights") "add")) (G_plus : FOk P w K mg base "plus" ["one", "other"] 2 (sp_plus K)) : MOk P w K mg base "Weights" "add" ["self", "hand", "weight"] 3 (sp_Weights_add K) := by
  refine ⟨mt, ?fn⟩
  refine fn_by (t := t_Weights_add K) D sc_Weights_add len_Weights_add (fun _ _ _ _ _ _ us hl => match us, hl with | [_, _, _], _ => rfl) (fun cdv A outer s0 H E hr => ?_) (pur_Weights_add T.toTxt.toTxtK)
  exact (pss_one (ps_asg (pe_f G_plus (hr.mono (by decide)) (by rfl) (pa_cons (pe_ix ix_list (pe_fld (pv 0) rfl) (pv 1) (fun _ _ => rfl)) (pa_cons (pv 2) pa_nil))) (pg_sub (pe_fld (pv 0) rfl) (pv 1) set_list)))
theorem sc_Weights_rested : FnScope N_Weights_rested ["self", "hand"] (defScope s_Weights_rested) := ⟨rfl, rfl, rfl, by decide +kernel, rfl, by decide +kernel, by decide +kernel⟩
theorem ok_Weights_rested (T : Txt2 K mg) (mt : Meth K (He.ga K "Weights") "rested" (He.ma K (He.ga K "Weights") "rested")) (D : Df K "rested" "Weights.rested" s_Weights_rested (He.ma K (He.ga K "Weights") "rested"))  : MOk P w K mg base "Weights" "rested" ["self", "hand"] 1 (sp_Weights_rested K) := by
  refine ⟨mt, ?fn⟩
  refine fn_by (t := t_Weights_rested K) D sc_Weights_rested len_Weights_rested (fun _ _ _ _ _ _ us hl => match us, hl with | [_, _], _ => rfl) (fun cdv A outer s0 H E hr => ?_) (pur_Weights_rested T.toTxt.toTxtK)
  exact (pss_one (ps_if (pt_cmpR op_gt (pv 1) pe_int (nomark _)) (pss_cons (ps_expr (pe_bm PySem.F.plainAttrs_list PySem.F.slot_list_append PySem.F.type_list_append mt_append (pe_ix ix_list (pe_fld (pv 0) rfl) (pv 1) (fun _ _ => rfl)) (pa_cons (pe_ix ix_list (pe_fld (pv 0) rfl) (pv 1) (fun _ _ => rfl)) pa_nil)))
      (pss_one (ps_asg (pe_tup (pa_cons pe_int (pa_cons pe_int pa_nil))) (pg_sub (pe_fld (pv 0) rfl) (pv 1) set_list)))) pss_nil))
theorem sc_Weights_came_home : FnScope N_Weights_came_home ["self", "hand"] (defScope s_Weights_came_home) := ⟨rfl, rfl, rfl, by decide +kernel, rfl, by decide +kernel, by decide +kernel⟩
theorem ok_Weights_came_home (T : Txt2 K mg) (mt : Meth K (He.ga K "Weights") "came_home" (He.ma K (He.ga K "Weights") "came_home")) (D : Df K "came_home" "Weights.came_home" s_Weights_came_home (He.ma K (He.ga K "Weights") "came_home")) (G_Weights_add : MOk P w K mg base "Weights" "add" ["self", "hand", "weight"] 3 (sp_Weights_add K)) : MOk P w K mg base "Weights" "came_home" ["self", "hand"] 4 (sp_Weights_came_home K) := by
  refine ⟨mt, ?fn⟩
  refine fn_by (t := t_Weights_came_home K) D sc_Weights_came_home len_Weights_came_home (fun _ _ _ _ _ _ us hl => match us, hl with | [_, _], _ => rfl) (fun cdv A outer s0 H E hr => ?_) (pur_Weights_came_home T.toTxt.toTxtK)
  exact (pss_one (ps_expr (pe_m (pv 0) T.clWeights G_Weights_add (hr.mono (by decide)) (pa_cons pe_int (pa_cons (pe_bm PySem.F.plainAttrs_list PySem.F.slot_list_pop PySem.F.type_list_pop mt_popAt (pe_ix ix_list (pe_fld (pv 0) rfl) (pv 1) (fun _ _ => rfl)) (pa_cons pe_int pa_nil)) pa_nil)))))
theorem sc_Hall_init : FnScope N_Hall_init ["self", "many"] (defScope s_Hall_init) := ⟨rfl, rfl, rfl, by decide +kernel, rfl, by decide +kernel, by decide +kernel⟩
theorem ok_Hall_init (T : Txt2 K mg) (D : Df K "__init__" "Hall.__init__" s_Hall_init (He.ma K (He.ga K "Hall") "__init__")) (G_Tree_init : IOk P w K mg base "Tree" ["self", "many"] 1 (sp_Tree_init K)) (G_Weights_init : IOk P w K mg base "Weights" ["self", "many"] 1 (sp_Weights_init K)) (G_Ring_init : IOk P w K mg base "Ring" ["self", "many"] 1 (sp_Ring_init K)) : IOk P w K mg base "Hall" ["self", "many"] 3 (sp_Hall_init K) := by
  refine ⟨?fn⟩
  refine fn_by (t := t_Hall_init K) D sc_Hall_init len_Hall_init (fun _ _ _ _ _ _ us hl => match us, hl with | [_, _], _ => rfl) (fun cdv A outer s0 H E hr => ?_) (pur_Hall_init T.toTxt.toTxtK)
  exact (pss_cons (ps_fld (pv 0) (pv 1) rfl)
      (pss_cons (ps_fld (pv 0) (pe_lc (own := [("hand", 2)]) (g := (gName 2)) (tt := tYes) (te := (tOp rEq (tVar 2) (tC (.int 0)))) rfl sc_Hall_init.nd (pi_range1 rfl T.range (pa_cons (pv 1) pa_nil)) (blkOk_by (own := [("hand", 2)]) (N := N_Hall_init) (sc := defScope s_Hall_init) (by decide +kernel)) (fun _ _ _ _ _ => (pg_name (i := 2) sc_Hall_init.nd rfl (by first | exact Or.inl rfl | exact Or.inr rfl))) (fun _ _ _ _ _ => pts_nil) (fun _ _ _ _ _ => (pe_cmpR op_eq (pv 2) pe_int (nomark _)))) rfl)
      (pss_cons (ps_fld (pv 0) pe_dnewT rfl)
      (pss_cons (ps_fld (pv 0) (pe_mk T.mkTree G_Tree_init (hr.mono (by decide)) (by rfl) T.gTree (pa_cons (pv 1) pa_nil)) rfl)
      (pss_cons (ps_fld (pv 0) (pe_mk T.mkWeights G_Weights_init (hr.mono (by decide)) (by rfl) T.gWeights (pa_cons (pv 1) pa_nil)) rfl)
      (pss_one (ps_fld (pv 0) (pe_mk T.mkRing G_Ring_init (hr.mono (by decide)) (by rfl) T.gRing (pa_cons (pv 1) pa_nil)) rfl)))))))
theorem sc_Hall_must_be : FnScope N_Hall_must_be ["self", "hand"] (defScope s_Hall_must_be) := ⟨rfl, rfl, rfl, by decide +kernel, rfl, by decide +kernel, by decide +kernel⟩
theorem ok_Hall_must_be (T : Txt2 K mg) (mt : Meth K (He.ga K "Hall") "must_be" (He.ma K (He.ga K "Hall") "must_be")) (D : Df K "must_be" "Hall.must_be" s_Hall_must_be (He.ma K (He.ga K "Hall") "must_be"))  : MOk P w K mg base "Hall" "must_be" ["self", "hand"] 1 (sp_Hall_must_be K) := by
  refine ⟨mt, ?fn⟩
  refine fn_by (t := t_Hall_must_be K) D sc_Hall_must_be len_Hall_must_be (fun _ _ _ _ _ _ us hl => match us, hl with | [_, _], _ => rfl) (fun cdv A outer s0 H E hr => ?_) (pur_Hall_must_be T.toTxt.toTxtK)
  exact (pss_one (ps_if (pt_not (pt_chain op_le op_lt pe_int (pv 1) (pe_fld (pv 0) rfl))) (pss_one ps_never) pss_nil))
theorem sc_Hall_must_be_two : FnScope N_Hall_must_be_two ["self", "one", "other"] (defScope s_Hall_must_be_two) := ⟨rfl, rfl, rfl, by decide +kernel, rfl, by decide +kernel, by decide +kernel⟩
theorem ok_Hall_must_be_two (T : Txt2 K mg) (mt : Meth K (He.ga K "Hall") "must_be_two" (He.ma K (He.ga K "Hall") "must_be_two")) (D : Df K "must_be_two" "Hall.must_be_two" s_Hall_must_be_two (He.ma K (He.ga K "Hall") "must_be_two")) (G_Hall_must_be : MOk P w K mg base "Hall" "must_be" ["self", "hand"] 1 (sp_Hall_must_be K)) : MOk P w K mg base "Hall" "must_be_two" ["self", "one", "other"] 2 (sp_Hall_must_be_two K) := by
  refine ⟨mt, ?fn⟩
  refine fn_by (t := t_Hall_must_be_two K) D sc_Hall_must_be_two len_Hall_must_be_two (fun _ _ _ _ _ _ us hl => match us, hl with | [_, _, _], _ => rfl) (fun cdv A outer s0 H E hr => ?_) (pur_Hall_must_be_two T.toTxt.toTxtK)
  exact (pss_cons (ps_expr (pe_m (pv 0) T.clHall G_Hall_must_be (hr.mono (by decide)) (pa_cons (pv 1) pa_nil)))
      (pss_cons (ps_expr (pe_m (pv 0) T.clHall G_Hall_must_be (hr.mono (by decide)) (pa_cons (pv 2) pa_nil)))
      (pss_one (ps_if (pt_cmpR op_eq (pv 1) (pv 2) (nomark _)) (pss_one ps_never) pss_nil))))
theorem sc_Hall_must : FnScope N_Hall_must ["self", "holds"] (defScope s_Hall_must) := ⟨rfl, rfl, rfl, by decide +kernel, rfl, by decide +kernel, by decide +kernel⟩
theorem ok_Hall_must (T : Txt2 K mg) (mt : Meth K (He.ga K "Hall") "must" (He.ma K (He.ga K "Hall") "must")) (D : Df K "must" "Hall.must" s_Hall_must (He.ma K (He.ga K "Hall") "must"))  : MOk P w K mg base "Hall" "must" ["self", "holds"] 1 (sp_Hall_must K) := by
  refine ⟨mt, ?fn⟩
  refine fn_by (t := t_Hall_must K) D sc_Hall_must len_Hall_must (fun _ _ _ _ _ _ us hl => match us, hl with | [_, _], _ => rfl) (fun cdv A outer s0 H E hr => ?_) (pur_Hall_must T.toTxt.toTxtK)
  exact (pss_one (ps_if (pt_not (pt_val (pv 1))) (pss_one ps_never) pss_nil))
theorem sc_Hall_row : FnScope N_Hall_row ["self", "one", "other"] (defScope s_Hall_row) := ⟨rfl, rfl, rfl, by decide +kernel, rfl, by decide +kernel, by decide +kernel⟩
theorem ok_Hall_row (T : Txt2 K mg) (mt : Meth K (He.ga K "Hall") "row" (He.ma K (He.ga K "Hall") "row")) (D : Df K "row" "Hall.row" s_Hall_row (He.ma K (He.ga K "Hall") "row"))  : MOk P w K mg base "Hall" "row" ["self", "one", "other"] 1 (sp_Hall_row K) := by
  refine ⟨mt, ?fn⟩
  refine fn_by (t := t_Hall_row K) D sc_Hall_row len_Hall_row (fun _ _ _ _ _ _ us hl => match us, hl with | [_, _, _], _ => rfl) (fun cdv A outer s0 H E hr => ?_) (pur_Hall_row T.toTxt.toTxtK)
  have hu := hu_of hr
  exact (pss_one (ps_ret (pe_dget2 hu (pe_fld (pv 0) rfl) (pe_tup (pa_cons (pv 1) (pa_cons (pv 2) pa_nil))) (pe_lst pa_nil) ⟨rfl, rfl, rfl, rfl⟩)))
theorem sc_Hall_send : FnScope N_Hall_send ["self", "one", "other"] (defScope s_Hall_send) := ⟨rfl, rfl, rfl, by decide +kernel, rfl, by decide +kernel, by decide +kernel⟩
theorem ok_Hall_send (T : Txt2 K mg) (mt : Meth K (He.ga K "Hall") "send" (He.ma K (He.ga K "Hall") "send")) (D : Df K "send" "Hall.send" s_Hall_send (He.ma K (He.ga K "Hall") "send")) (G_Hall_must_be_two : MOk P w K mg base "Hall" "must_be_two" ["self", "one", "other"] 2 (sp_Hall_must_be_two K)) (G_Hall_must : MOk P w K mg base "Hall" "must" ["self", "holds"] 1 (sp_Hall_must K)) (G_Hall_row : MOk P w K mg base "Hall" "row" ["self", "one", "other"] 1 (sp_Hall_row K)) (G_Weights_split : MOk P w K mg base "Weights" "split" ["self", "hand"] 3 (sp_Weights_split K)) (G_Tree_sent : MOk P w K mg base "Tree" "sent" ["self", "one"] 1 (sp_Tree_sent K)) (G_Ring_sent : MOk P w K mg base "Ring" "sent" ["self", "one"] 1 (sp_Ring_sent K)) : MOk P w K mg base "Hall" "send" ["self", "one", "other"] 4 (sp_Hall_send K) := by
  refine ⟨mt, ?fn⟩
  refine fn_by (t := t_Hall_send K) D sc_Hall_send len_Hall_send (fun _ _ _ _ _ _ us hl => match us, hl with | [_, _, _], _ => rfl) (fun cdv A outer s0 H E hr => ?_) (pur_Hall_send T.toTxt.toTxtK)
  have hu := hu_of hr
  exact (pss_cons (ps_expr (pe_m (pv 0) T.clHall G_Hall_must_be_two (hr.mono (by decide)) (pa_cons (pv 1) (pa_cons (pv 2) pa_nil))))
      (pss_cons (ps_expr (pe_m (pv 0) T.clHall G_Hall_must (hr.mono (by decide)) (pa_cons (pe_ix ix_list (pe_fld (pv 0) rfl) (pv 1) (fun _ _ => rfl)) pa_nil)))
      (pss_cons (ps_dput hu (pe_fld (pv 0) rfl) (pe_tup (pa_cons (pv 1) (pa_cons (pv 2) pa_nil))) (pe_op op_cat (pe_m (pv 0) T.clHall G_Hall_row (hr.mono (by decide)) (pa_cons (pv 1) (pa_cons (pv 2) pa_nil))) (pe_lst (pa_cons (pe_m (pe_fld (pv 0) rfl) T.clWeights G_Weights_split (hr.mono (by decide)) (pa_cons (pv 1) pa_nil)) pa_nil))) rfl)
      (pss_cons (ps_expr (pe_m (pe_fld (pv 0) rfl) T.clTree G_Tree_sent (hr.mono (by decide)) (pa_cons (pv 1) pa_nil)))
      (pss_one (ps_expr (pe_m (pe_fld (pv 0) rfl) T.clRing G_Ring_sent (hr.mono (by decide)) (pa_cons (pv 1) pa_nil))))))))
theorem sc_Hall_take : FnScope N_Hall_take ["self", "one", "other"] (defScope s_Hall_take) := ⟨rfl, rfl, rfl, by decide +kernel, rfl, by decide +kernel, by decide +kernel⟩
theorem ok_Hall_take (T : Txt2 K mg) (mt : Meth K (He.ga K "Hall") "take" (He.ma K (He.ga K "Hall") "take")) (D : Df K "take" "Hall.take" s_Hall_take (He.ma K (He.ga K "Hall") "take")) (G_Hall_must_be_two : MOk P w K mg base "Hall" "must_be_two" ["self", "one", "other"] 2 (sp_Hall_must_be_two K)) (G_Hall_must : MOk P w K mg base "Hall" "must" ["self", "holds"] 1 (sp_Hall_must K)) (G_Hall_row : MOk P w K mg base "Hall" "row" ["self", "one", "other"] 1 (sp_Hall_row K)) (G_Weights_add : MOk P w K mg base "Weights" "add" ["self", "hand", "weight"] 3 (sp_Weights_add K)) (G_Tree_taken : MOk P w K mg base "Tree" "taken" ["self", "one", "other"] 2 (sp_Tree_taken K)) (G_Ring_taken : MOk P w K mg base "Ring" "taken" ["self", "other"] 1 (sp_Ring_taken K)) : MOk P w K mg base "Hall" "take" ["self", "one", "other"] 4 (sp_Hall_take K) := by
  refine ⟨mt, ?fn⟩
  refine fn_by (t := t_Hall_take K) D sc_Hall_take len_Hall_take (fun _ _ _ _ _ _ us hl => match us, hl with | [_, _, _], _ => rfl) (fun cdv A outer s0 H E hr => ?_) (pur_Hall_take T.toTxt.toTxtK)
  have hu := hu_of hr
  exact (pss_cons (ps_expr (pe_m (pv 0) T.clHall G_Hall_must_be_two (hr.mono (by decide)) (pa_cons (pv 1) (pa_cons (pv 2) pa_nil))))
      (pss_cons (ps_expr (pe_m (pv 0) T.clHall G_Hall_must (hr.mono (by decide)) (pa_cons (pe_cmpR op_gt (pe_callB call_len_seq (by rfl) T.len (by decide +kernel) (pa_cons (pe_m (pv 0) T.clHall G_Hall_row (hr.mono (by decide)) (pa_cons (pv 1) (pa_cons (pv 2) pa_nil))) pa_nil)) pe_int (nomark _)) pa_nil)))
      (pss_cons (ps_expr (pe_m (pe_fld (pv 0) rfl) T.clWeights G_Weights_add (hr.mono (by decide)) (pa_cons (pv 2) (pa_cons (pe_ix ix_list (pe_m (pv 0) T.clHall G_Hall_row (hr.mono (by decide)) (pa_cons (pv 1) (pa_cons (pv 2) pa_nil))) pe_int (fun _ _ => rfl)) pa_nil))))
      (pss_cons (ps_dput hu (pe_fld (pv 0) rfl) (pe_tup (pa_cons (pv 1) (pa_cons (pv 2) pa_nil))) (pe_slice sl_list (pe_m (pv 0) T.clHall G_Hall_row (hr.mono (by decide)) (pa_cons (pv 1) (pa_cons (pv 2) pa_nil))) (po_some pe_int) po_none) rfl)
      (pss_cons (ps_asg pe_bl (pg_sub (pe_fld (pv 0) rfl) (pv 2) set_list))
      (pss_cons (ps_expr (pe_m (pe_fld (pv 0) rfl) T.clTree G_Tree_taken (hr.mono (by decide)) (pa_cons (pv 1) (pa_cons (pv 2) pa_nil))))
      (pss_one (ps_expr (pe_m (pe_fld (pv 0) rfl) T.clRing G_Ring_taken (hr.mono (by decide)) (pa_cons (pv 2) pa_nil))))))))))
theorem sc_Hall_rest : FnScope N_Hall_rest ["self", "hand"] (defScope s_Hall_rest) := ⟨rfl, rfl, rfl, by decide +kernel, rfl, by decide +kernel, by decide +kernel⟩
theorem ok_Hall_rest (T : Txt2 K mg) (mt : Meth K (He.ga K "Hall") "rest" (He.ma K (He.ga K "Hall") "rest")) (D : Df K "rest" "Hall.rest" s_Hall_rest (He.ma K (He.ga K "Hall") "rest")) (G_Hall_must_be : MOk P w K mg base "Hall" "must_be" ["self", "hand"] 1 (sp_Hall_must_be K)) (G_Hall_must : MOk P w K mg base "Hall" "must" ["self", "holds"] 1 (sp_Hall_must K)) (G_Weights_rested : MOk P w K mg base "Weights" "rested" ["self", "hand"] 1 (sp_Weights_rested K)) (G_Tree_settle : MOk P w K mg base "Tree" "settle" ["self", "hand", "works"] 2 (sp_Tree_settle K)) : MOk P w K mg base "Hall" "rest" ["self", "hand"] 3 (sp_Hall_rest K) := by
  refine ⟨mt, ?fn⟩
  refine fn_by (t := t_Hall_rest K) D sc_Hall_rest len_Hall_rest (fun _ _ _ _ _ _ us hl => match us, hl with | [_, _], _ => rfl) (fun cdv A outer s0 H E hr => ?_) (pur_Hall_rest T.toTxt.toTxtK)
  exact (pss_cons (ps_expr (pe_m (pv 0) T.clHall G_Hall_must_be (hr.mono (by decide)) (pa_cons (pv 1) pa_nil)))
      (pss_cons (ps_expr (pe_m (pv 0) T.clHall G_Hall_must (hr.mono (by decide)) (pa_cons (pe_ix ix_list (pe_fld (pv 0) rfl) (pv 1) (fun _ _ => rfl)) pa_nil)))
      (pss_cons (ps_asg pe_bl (pg_sub (pe_fld (pv 0) rfl) (pv 1) set_list))
      (pss_cons (ps_expr (pe_m (pe_fld (pv 0) rfl) T.clWeights G_Weights_rested (hr.mono (by decide)) (pa_cons (pv 1) pa_nil)))
      (pss_one (ps_expr (pe_m (pe_fld (pv 0) rfl) T.clTree G_Tree_settle (hr.mono (by decide)) (pa_cons (pv 1) (pa_cons pe_bl pa_nil)))))))))
theorem sc_Hall_back : FnScope N_Hall_back ["self", "one", "other"] (defScope s_Hall_back) := ⟨rfl, rfl, rfl, by decide +kernel, rfl, by decide +kernel, by decide +kernel⟩
theorem ok_Hall_back (T : Txt2 K mg) (mt : Meth K (He.ga K "Hall") "back" (He.ma K (He.ga K "Hall") "back")) (D : Df K "back" "Hall.back" s_Hall_back (He.ma K (He.ga K "Hall") "back")) (G_Hall_must_be_two : MOk P w K mg base "Hall" "must_be_two" ["self", "one", "other"] 2 (sp_Hall_must_be_two K)) (G_Hall_must : MOk P w K mg base "Hall" "must" ["self", "holds"] 1 (sp_Hall_must K)) (G_Hall_receipts : MOk P w K mg base "Hall" "receipts" ["self", "one", "other"] 3 (sp_Hall_receipts K)) (G_Tree_came_back : MOk P w K mg base "Tree" "came_back" ["self", "one", "other"] 1 (sp_Tree_came_back K)) (G_Tree_settle : MOk P w K mg base "Tree" "settle" ["self", "hand", "works"] 2 (sp_Tree_settle K)) : MOk P w K mg base "Hall" "back" ["self", "one", "other"] 4 (sp_Hall_back K) := by
  refine ⟨mt, ?fn⟩
  refine fn_by (t := t_Hall_back K) D sc_Hall_back len_Hall_back (fun _ _ _ _ _ _ us hl => match us, hl with | [_, _, _], _ => rfl) (fun cdv A outer s0 H E hr => ?_) (pur_Hall_back T.toTxt.toTxtK)
  exact (pss_cons (ps_expr (pe_m (pv 0) T.clHall G_Hall_must_be_two (hr.mono (by decide)) (pa_cons (pv 1) (pa_cons (pv 2) pa_nil))))
      (pss_cons (ps_expr (pe_m (pv 0) T.clHall G_Hall_must (hr.mono (by decide)) (pa_cons (pe_cmpR op_gt (pe_m (pv 0) T.clHall G_Hall_receipts (hr.mono (by decide)) (pa_cons (pv 1) (pa_cons (pv 2) pa_nil))) pe_int (nomark _)) pa_nil)))
      (pss_cons (ps_expr (pe_m (pe_fld (pv 0) rfl) T.clTree G_Tree_came_back (hr.mono (by decide)) (pa_cons (pv 1) (pa_cons (pv 2) pa_nil))))
      (pss_one (ps_expr (pe_m (pe_fld (pv 0) rfl) T.clTree G_Tree_settle (hr.mono (by decide)) (pa_cons (pv 1) (pa_cons (pe_ix ix_list (pe_fld (pv 0) rfl) (pv 1) (fun _ _ => rfl)) pa_nil))))))))
theorem sc_Hall_home : FnScope N_Hall_home ["self", "hand"] (defScope s_Hall_home) := ⟨rfl, rfl, rfl, by decide +kernel, rfl, by decide +kernel, by decide +kernel⟩
theorem ok_Hall_home (T : Txt2 K mg) (mt : Meth K (He.ga K "Hall") "home" (He.ma K (He.ga K "Hall") "home")) (D : Df K "home" "Hall.home" s_Hall_home (He.ma K (He.ga K "Hall") "home")) (G_Hall_must_be : MOk P w K mg base "Hall" "must_be" ["self", "hand"] 1 (sp_Hall_must_be K)) (G_Hall_must : MOk P w K mg base "Hall" "must" ["self", "holds"] 1 (sp_Hall_must K)) (G_Weights_came_home : MOk P w K mg base "Weights" "came_home" ["self", "hand"] 4 (sp_Weights_came_home K)) : MOk P w K mg base "Hall" "home" ["self", "hand"] 5 (sp_Hall_home K) := by
  refine ⟨mt, ?fn⟩
  refine fn_by (t := t_Hall_home K) D sc_Hall_home len_Hall_home (fun _ _ _ _ _ _ us hl => match us, hl with | [_, _], _ => rfl) (fun cdv A outer s0 H E hr => ?_) (pur_Hall_home T.toTxt.toTxtK)
  exact (pss_cons (ps_expr (pe_m (pv 0) T.clHall G_Hall_must_be (hr.mono (by decide)) (pa_cons (pv 1) pa_nil)))
      (pss_cons (ps_if (pt_cmpR op_eq (pv 1) pe_int (nomark _)) (pss_one ps_never) pss_nil)
      (pss_cons (ps_expr (pe_m (pv 0) T.clHall G_Hall_must (hr.mono (by decide)) (pa_cons (pe_cmpR op_gt (pe_callB call_len_seq (by rfl) T.len (by decide +kernel) (pa_cons (pe_ix ix_list (pe_fld (pe_fld (pv 0) rfl) rfl) (pv 1) (fun _ _ => rfl)) pa_nil)) pe_int (nomark _)) pa_nil)))
      (pss_one (ps_expr (pe_m (pe_fld (pv 0) rfl) T.clWeights G_Weights_came_home (hr.mono (by decide)) (pa_cons (pv 1) pa_nil)))))))
theorem sc_Hall_pass_on : FnScope N_Hall_pass_on ["self"] (defScope s_Hall_pass_on) := ⟨rfl, rfl, rfl, by decide +kernel, rfl, by decide +kernel, by decide +kernel⟩
theorem ok_Hall_pass_on (T : Txt2 K mg) (mt : Meth K (He.ga K "Hall") "pass_on" (He.ma K (He.ga K "Hall") "pass_on")) (D : Df K "pass_on" "Hall.pass_on" s_Hall_pass_on (He.ma K (He.ga K "Hall") "pass_on")) (G_Hall_must : MOk P w K mg base "Hall" "must" ["self", "holds"] 1 (sp_Hall_must K)) (G_Ring_passed : MOk P w K mg base "Ring" "passed" ["self"] 1 (sp_Ring_passed K)) : MOk P w K mg base "Hall" "pass_on" ["self"] 2 (sp_Hall_pass_on K) := by
  refine ⟨mt, ?fn⟩
  refine fn_by (t := t_Hall_pass_on K) D sc_Hall_pass_on len_Hall_pass_on (fun _ _ _ _ _ _ us hl => match us, hl with | [_], _ => rfl) (fun cdv A outer s0 H E hr => ?_) (pur_Hall_pass_on T.toTxt.toTxtK)
  exact (pss_cons (ps_expr (pe_m (pv 0) T.clHall G_Hall_must (hr.mono (by decide)) (pa_cons (pe_not (pe_ix ix_list (pe_fld (pv 0) rfl) (pe_fld (pe_fld (pv 0) rfl) rfl) (fun _ _ => rfl))) pa_nil)))
      (pss_one (ps_expr (pe_m0 (pe_fld (pv 0) rfl) T.clRing G_Ring_passed (hr.mono (by decide))))))
theorem sc_Hall_working : FnScope N_Hall_working ["self"] (defScope s_Hall_working) := ⟨rfl, rfl, rfl, by decide +kernel, rfl, by decide +kernel, by decide +kernel⟩
theorem ok_Hall_working (T : Txt2 K mg) (mt : Meth K (He.ga K "Hall") "working" (He.ma K (He.ga K "Hall") "working")) (D : Df K "working" "Hall.working" s_Hall_working (He.ma K (He.ga K "Hall") "working"))  : MOk P w K mg base "Hall" "working" ["self"] 1 (sp_Hall_working K) := by
  refine ⟨mt, ?fn⟩
  refine fn_by (t := t_Hall_working K) D sc_Hall_working len_Hall_working (fun _ _ _ _ _ _ us hl => match us, hl with | [_], _ => rfl) (fun cdv A outer s0 H E hr => ?_) (pur_Hall_working T.toTxt.toTxtK)
  exact (pss_one (ps_ret (pe_callTy call_tuple_of (by rfl) T.tuple (by decide +kernel) (pa_cons (pe_lc (own := [("hand", 1)]) (g := (gName 1)) (tt := (tB (tOp (rIxL K) (tFld K (tVar 0) "busy") (tVar 1)))) (te := (tVar 1)) rfl sc_Hall_working.nd (pi_range1 rfl T.range (pa_cons (pe_fld (pv 0) rfl) pa_nil)) (blkOk_by (own := [("hand", 1)]) (N := N_Hall_working) (sc := defScope s_Hall_working) (by decide +kernel)) (fun _ _ _ _ _ => (pg_name (i := 1) sc_Hall_working.nd rfl (by first | exact Or.inl rfl | exact Or.inr rfl))) (fun _ _ _ _ _ => pts_one (pt_val (pe_ix ix_list (pe_fld (pv 0) rfl) (pv 1) (fun _ _ => rfl)))) (fun _ _ _ _ _ => (pv 1))) pa_nil))))
theorem sc_Hall_works : FnScope N_Hall_works ["self", "one", "other"] (defScope s_Hall_works) := ⟨rfl, rfl, rfl, by decide +kernel, rfl, by decide +kernel, by decide +kernel⟩
theorem ok_Hall_works (T : Txt2 K mg) (mt : Meth K (He.ga K "Hall") "works" (He.ma K (He.ga K "Hall") "works")) (D : Df K "works" "Hall.works" s_Hall_works (He.ma K (He.ga K "Hall") "works")) (G_Hall_must_be_two : MOk P w K mg base "Hall" "must_be_two" ["self", "one", "other"] 2 (sp_Hall_must_be_two K)) (G_Hall_row : MOk P w K mg base "Hall" "row" ["self", "one", "other"] 1 (sp_Hall_row K)) : MOk P w K mg base "Hall" "works" ["self", "one", "other"] 3 (sp_Hall_works K) := by
  refine ⟨mt, ?fn⟩
  refine fn_by (t := t_Hall_works K) D sc_Hall_works len_Hall_works (fun _ _ _ _ _ _ us hl => match us, hl with | [_, _, _], _ => rfl) (fun cdv A outer s0 H E hr => ?_) (pur_Hall_works T.toTxt.toTxtK)
  exact (pss_cons (ps_expr (pe_m (pv 0) T.clHall G_Hall_must_be_two (hr.mono (by decide)) (pa_cons (pv 1) (pa_cons (pv 2) pa_nil))))
      (pss_one (ps_ret (pe_callB call_len_seq (by rfl) T.len (by decide +kernel) (pa_cons (pe_m (pv 0) T.clHall G_Hall_row (hr.mono (by decide)) (pa_cons (pv 1) (pa_cons (pv 2) pa_nil))) pa_nil)))))
theorem sc_Hall_is_quiet : FnScope N_Hall_is_quiet ["self"] (defScope s_Hall_is_quiet) := ⟨rfl, rfl, rfl, by decide +kernel, rfl, by decide +kernel, by decide +kernel⟩
theorem ok_Hall_is_quiet (T : Txt2 K mg) (mt : Meth K (He.ga K "Hall") "is_quiet" (He.ma K (He.ga K "Hall") "is_quiet")) (D : Df K "is_quiet" "Hall.is_quiet" s_Hall_is_quiet (He.ma K (He.ga K "Hall") "is_quiet"))  : MOk P w K mg base "Hall" "is_quiet" ["self"] 1 (sp_Hall_is_quiet K) := by
  refine ⟨mt, ?fn⟩
  refine fn_by (t := t_Hall_is_quiet K) D sc_Hall_is_quiet len_Hall_is_quiet (fun _ _ _ _ _ _ us hl => match us, hl with | [_], _ => rfl) (fun cdv A outer s0 H E hr => ?_) (pur_Hall_is_quiet T.toTxt.toTxtK)
  exact (pss_one (ps_ret (pe_and (pe_not (pe_callB (cr_any rfl) (by rfl) T.any (by decide +kernel) (pa_cons (pe_fld (pv 0) rfl) pa_nil))) (pe_one (pe_not (pe_callB (cr_any rfl) (by rfl) T.any (by decide +kernel) (pa_cons (pe_lock (pe_lc (own := [("row", 1)]) (g := (gName 1)) (tt := tYes) (te := (tOp rGtI (tCB (rLenS K) (tCons (tVar 1) tNil)) (tC (.int 0)))) rfl sc_Hall_is_quiet.nd (pi_valuesT (pe_fld (pv 0) rfl)) (blkOk_by (own := [("row", 1)]) (N := N_Hall_is_quiet) (sc := defScope s_Hall_is_quiet) (by decide +kernel)) (fun _ _ _ _ _ => (pg_name (i := 1) sc_Hall_is_quiet.nd rfl (by first | exact Or.inl rfl | exact Or.inr rfl))) (fun _ _ _ _ _ => pts_nil) (fun _ _ _ _ _ => (pe_cmpR op_gt (pe_callB call_len_seq (by rfl) T.len (by decide +kernel) (pa_cons (pv 1) pa_nil)) pe_int (nomark _))))) pa_nil)))))))
theorem sc_Hall_open_of : FnScope N_Hall_open_of ["self", "hand"] (defScope s_Hall_open_of) := ⟨rfl, rfl, rfl, by decide +kernel, rfl, by decide +kernel, by decide +kernel⟩
theorem ok_Hall_open_of (T : Txt2 K mg) (mt : Meth K (He.ga K "Hall") "open_of" (He.ma K (He.ga K "Hall") "open_of")) (D : Df K "open_of" "Hall.open_of" s_Hall_open_of (He.ma K (He.ga K "Hall") "open_of")) (G_Hall_must_be : MOk P w K mg base "Hall" "must_be" ["self", "hand"] 1 (sp_Hall_must_be K)) : MOk P w K mg base "Hall" "open_of" ["self", "hand"] 2 (sp_Hall_open_of K) := by
  refine ⟨mt, ?fn⟩
  refine fn_by (t := t_Hall_open_of K) D sc_Hall_open_of len_Hall_open_of (fun _ _ _ _ _ _ us hl => match us, hl with | [_, _], _ => rfl) (fun cdv A outer s0 H E hr => ?_) (pur_Hall_open_of T.toTxt.toTxtK)
  exact (pss_cons (ps_expr (pe_m (pv 0) T.clHall G_Hall_must_be (hr.mono (by decide)) (pa_cons (pv 1) pa_nil)))
      (pss_one (ps_ret (pe_ix ix_list (pe_fld (pe_fld (pv 0) rfl) rfl) (pv 1) (fun _ _ => rfl)))))
theorem sc_Hall_above : FnScope N_Hall_above ["self", "hand"] (defScope s_Hall_above) := ⟨rfl, rfl, rfl, by decide +kernel, rfl, by decide +kernel, by decide +kernel⟩
theorem ok_Hall_above (T : Txt2 K mg) (mt : Meth K (He.ga K "Hall") "above" (He.ma K (He.ga K "Hall") "above")) (D : Df K "above" "Hall.above" s_Hall_above (He.ma K (He.ga K "Hall") "above")) (G_Hall_must_be : MOk P w K mg base "Hall" "must_be" ["self", "hand"] 1 (sp_Hall_must_be K)) : MOk P w K mg base "Hall" "above" ["self", "hand"] 2 (sp_Hall_above K) := by
  refine ⟨mt, ?fn⟩
  refine fn_by (t := t_Hall_above K) D sc_Hall_above len_Hall_above (fun _ _ _ _ _ _ us hl => match us, hl with | [_, _], _ => rfl) (fun cdv A outer s0 H E hr => ?_) (pur_Hall_above T.toTxt.toTxtK)
  exact (pss_cons (ps_expr (pe_m (pv 0) T.clHall G_Hall_must_be (hr.mono (by decide)) (pa_cons (pv 1) pa_nil)))
      (pss_one (ps_ret (pe_ix ix_list (pe_fld (pe_fld (pv 0) rfl) rfl) (pv 1) (fun _ _ => rfl)))))
theorem sc_Hall_receipts : FnScope N_Hall_receipts ["self", "one", "other"] (defScope s_Hall_receipts) := ⟨rfl, rfl, rfl, by decide +kernel, rfl, by decide +kernel, by decide +kernel⟩
theorem ok_Hall_receipts (T : Txt2 K mg) (mt : Meth K (He.ga K "Hall") "receipts" (He.ma K (He.ga K "Hall") "receipts")) (D : Df K "receipts" "Hall.receipts" s_Hall_receipts (He.ma K (He.ga K "Hall") "receipts")) (G_Hall_must_be_two : MOk P w K mg base "Hall" "must_be_two" ["self", "one", "other"] 2 (sp_Hall_must_be_two K)) : MOk P w K mg base "Hall" "receipts" ["self", "one", "other"] 3 (sp_Hall_receipts K) := by
  refine ⟨mt, ?fn⟩
  refine fn_by (t := t_Hall_receipts K) D sc_Hall_receipts len_Hall_receipts (fun _ _ _ _ _ _ us hl => match us, hl with | [_, _, _], _ => rfl) (fun cdv A outer s0 H E hr => ?_) (pur_Hall_receipts T.toTxt.toTxtK)
  have hu := hu_of hr
  exact (pss_cons (ps_expr (pe_m (pv 0) T.clHall G_Hall_must_be_two (hr.mono (by decide)) (pa_cons (pv 1) (pa_cons (pv 2) pa_nil))))
      (pss_one (ps_ret (pe_dget2 hu (pe_fld (pe_fld (pv 0) rfl) rfl) (pe_tup (pa_cons (pv 1) (pa_cons (pv 2) pa_nil))) pe_int ⟨rfl, rfl, rfl, rfl⟩))))
theorem sc_Hall_weight_of : FnScope N_Hall_weight_of ["self", "hand"] (defScope s_Hall_weight_of) := ⟨rfl, rfl, rfl, by decide +kernel, rfl, by decide +kernel, by decide +kernel⟩
theorem ok_Hall_weight_of (T : Txt2 K mg) (mt : Meth K (He.ga K "Hall") "weight_of" (He.ma K (He.ga K "Hall") "weight_of")) (D : Df K "weight_of" "Hall.weight_of" s_Hall_weight_of (He.ma K (He.ga K "Hall") "weight_of")) (G_Hall_must_be : MOk P w K mg base "Hall" "must_be" ["self", "hand"] 1 (sp_Hall_must_be K)) : MOk P w K mg base "Hall" "weight_of" ["self", "hand"] 2 (sp_Hall_weight_of K) := by
  refine ⟨mt, ?fn⟩
  refine fn_by (t := t_Hall_weight_of K) D sc_Hall_weight_of len_Hall_weight_of (fun _ _ _ _ _ _ us hl => match us, hl with | [_, _], _ => rfl) (fun cdv A outer s0 H E hr => ?_) (pur_Hall_weight_of T.toTxt.toTxtK)
  exact (pss_cons (ps_expr (pe_m (pv 0) T.clHall G_Hall_must_be (hr.mono (by decide)) (pa_cons (pv 1) pa_nil)))
      (pss_one (ps_ret (pe_ix ix_list (pe_fld (pe_fld (pv 0) rfl) rfl) (pv 1) (fun _ _ => rfl)))))
theorem sc_Hall_weights_on : FnScope N_Hall_weights_on ["self", "one", "other"] (defScope s_Hall_weights_on) := ⟨rfl, rfl, rfl, by decide +kernel, rfl, by decide +kernel, by decide +kernel⟩
theorem ok_Hall_weights_on (T : Txt2 K mg) (mt : Meth K (He.ga K "Hall") "weights_on" (He.ma K (He.ga K "Hall") "weights_on")) (D : Df K "weights_on" "Hall.weights_on" s_Hall_weights_on (He.ma K (He.ga K "Hall") "weights_on")) (G_Hall_must_be_two : MOk P w K mg base "Hall" "must_be_two" ["self", "one", "other"] 2 (sp_Hall_must_be_two K)) (G_Hall_row : MOk P w K mg base "Hall" "row" ["self", "one", "other"] 1 (sp_Hall_row K)) : MOk P w K mg base "Hall" "weights_on" ["self", "one", "other"] 3 (sp_Hall_weights_on K) := by
  refine ⟨mt, ?fn⟩
  refine fn_by (t := t_Hall_weights_on K) D sc_Hall_weights_on len_Hall_weights_on (fun _ _ _ _ _ _ us hl => match us, hl with | [_, _, _], _ => rfl) (fun cdv A outer s0 H E hr => ?_) (pur_Hall_weights_on T.toTxt.toTxtK)
  exact (pss_cons (ps_expr (pe_m (pv 0) T.clHall G_Hall_must_be_two (hr.mono (by decide)) (pa_cons (pv 1) (pa_cons (pv 2) pa_nil))))
      (pss_one (ps_ret (pe_callTy call_tuple_of (by rfl) T.tuple (by decide +kernel) (pa_cons (pe_m (pv 0) T.clHall G_Hall_row (hr.mono (by decide)) (pa_cons (pv 1) (pa_cons (pv 2) pa_nil))) pa_nil)))))
theorem sc_Hall_weights_home : FnScope N_Hall_weights_home ["self", "hand"] (defScope s_Hall_weights_home) := ⟨rfl, rfl, rfl, by decide +kernel, rfl, by decide +kernel, by decide +kernel⟩
theorem ok_Hall_weights_home (T : Txt2 K mg) (mt : Meth K (He.ga K "Hall") "weights_home" (He.ma K (He.ga K "Hall") "weights_home")) (D : Df K "weights_home" "Hall.weights_home" s_Hall_weights_home (He.ma K (He.ga K "Hall") "weights_home")) (G_Hall_must_be : MOk P w K mg base "Hall" "must_be" ["self", "hand"] 1 (sp_Hall_must_be K)) : MOk P w K mg base "Hall" "weights_home" ["self", "hand"] 2 (sp_Hall_weights_home K) := by
  refine ⟨mt, ?fn⟩
  refine fn_by (t := t_Hall_weights_home K) D sc_Hall_weights_home len_Hall_weights_home (fun _ _ _ _ _ _ us hl => match us, hl with | [_, _], _ => rfl) (fun cdv A outer s0 H E hr => ?_) (pur_Hall_weights_home T.toTxt.toTxtK)
  exact (pss_cons (ps_expr (pe_m (pv 0) T.clHall G_Hall_must_be (hr.mono (by decide)) (pa_cons (pv 1) pa_nil)))
      (pss_one (ps_ret (pe_callTy call_tuple_of (by rfl) T.tuple (by decide +kernel) (pa_cons (pe_ix ix_list (pe_fld (pe_fld (pv 0) rfl) rfl) (pv 1) (fun _ _ => rfl)) pa_nil)))))
theorem sc_Hall_token : FnScope N_Hall_token ["self"] (defScope s_Hall_token) := ⟨rfl, rfl, rfl, by decide +kernel, rfl, by decide +kernel, by decide +kernel⟩
theorem ok_Hall_token (T : Txt2 K mg) (mt : Meth K (He.ga K "Hall") "token" (He.ma K (He.ga K "Hall") "token")) (D : Df K "token" "Hall.token" s_Hall_token (He.ma K (He.ga K "Hall") "token"))  : MOk P w K mg base "Hall" "token" ["self"] 1 (sp_Hall_token K) := by
  refine ⟨mt, ?fn⟩
  refine fn_by (t := t_Hall_token K) D sc_Hall_token len_Hall_token (fun _ _ _ _ _ _ us hl => match us, hl with | [_], _ => rfl) (fun cdv A outer s0 H E hr => ?_) (pur_Hall_token T.toTxt.toTxtK)
  exact (pss_one (ps_ret (pe_tup (pa_cons (pe_fld (pe_fld (pv 0) rfl) rfl) (pa_cons (pe_fld (pe_fld (pv 0) rfl) rfl) (pa_cons (pe_fld (pe_fld (pv 0) rfl) rfl) pa_nil))))))
theorem sc_Hall_count_of : FnScope N_Hall_count_of ["self", "hand"] (defScope s_Hall_count_of) := ⟨rfl, rfl, rfl, by decide +kernel, rfl, by decide +kernel, by decide +kernel⟩
theorem ok_Hall_count_of (T : Txt2 K mg) (mt : Meth K (He.ga K "Hall") "count_of" (He.ma K (He.ga K "Hall") "count_of")) (D : Df K "count_of" "Hall.count_of" s_Hall_count_of (He.ma K (He.ga K "Hall") "count_of")) (G_Hall_must_be : MOk P w K mg base "Hall" "must_be" ["self", "hand"] 1 (sp_Hall_must_be K)) : MOk P w K mg base "Hall" "count_of" ["self", "hand"] 2 (sp_Hall_count_of K) := by
  refine ⟨mt, ?fn⟩
  refine fn_by (t := t_Hall_count_of K) D sc_Hall_count_of len_Hall_count_of (fun _ _ _ _ _ _ us hl => match us, hl with | [_, _], _ => rfl) (fun cdv A outer s0 H E hr => ?_) (pur_Hall_count_of T.toTxt.toTxtK)
  exact (pss_cons (ps_expr (pe_m (pv 0) T.clHall G_Hall_must_be (hr.mono (by decide)) (pa_cons (pv 1) pa_nil)))
      (pss_one (ps_ret (pe_ix ix_list (pe_fld (pe_fld (pv 0) rfl) rfl) (pv 1) (fun _ _ => rfl)))))
theorem sc_Hall_colour_of : FnScope N_Hall_colour_of ["self", "hand"] (defScope s_Hall_colour_of) := ⟨rfl, rfl, rfl, by decide +kernel, rfl, by decide +kernel, by decide +kernel⟩
theorem ok_Hall_colour_of (T : Txt2 K mg) (mt : Meth K (He.ga K "Hall") "colour_of" (He.ma K (He.ga K "Hall") "colour_of")) (D : Df K "colour_of" "Hall.colour_of" s_Hall_colour_of (He.ma K (He.ga K "Hall") "colour_of")) (G_Hall_must_be : MOk P w K mg base "Hall" "must_be" ["self", "hand"] 1 (sp_Hall_must_be K)) : MOk P w K mg base "Hall" "colour_of" ["self", "hand"] 2 (sp_Hall_colour_of K) := by
  refine ⟨mt, ?fn⟩
  refine fn_by (t := t_Hall_colour_of K) D sc_Hall_colour_of len_Hall_colour_of (fun _ _ _ _ _ _ us hl => match us, hl with | [_, _], _ => rfl) (fun cdv A outer s0 H E hr => ?_) (pur_Hall_colour_of T.toTxt.toTxtK)
  exact (pss_cons (ps_expr (pe_m (pv 0) T.clHall G_Hall_must_be (hr.mono (by decide)) (pa_cons (pv 1) pa_nil)))
      (pss_one (ps_ret (pe_ix ix_list (pe_fld (pe_fld (pv 0) rfl) rfl) (pv 1) (fun _ _ => rfl)))))
theorem sc_Hall_told : FnScope N_Hall_told ["self"] (defScope s_Hall_told) := ⟨rfl, rfl, rfl, by decide +kernel, rfl, by decide +kernel, by decide +kernel⟩
theorem ok_Hall_told (T : Txt2 K mg) (mt : Meth K (He.ga K "Hall") "told" (He.ma K (He.ga K "Hall") "told")) (D : Df K "told" "Hall.told" s_Hall_told (He.ma K (He.ga K "Hall") "told"))  : MOk P w K mg base "Hall" "told" ["self"] 1 (sp_Hall_told K) := by
  refine ⟨mt, ?fn⟩
  refine fn_by (t := t_Hall_told K) D sc_Hall_told len_Hall_told (fun _ _ _ _ _ _ us hl => match us, hl with | [_], _ => rfl) (fun cdv A outer s0 H E hr => ?_) (pur_Hall_told T.toTxt.toTxtK)
  exact (pss_cons (ps_set (i := 1) sc_Hall_told.nd rfl (by first | exact Or.inl rfl | exact Or.inr rfl) (pe_not (pe_ix ix_list (pe_fld (pv 0) rfl) pe_int (fun _ _ => rfl))))
      (pss_one (ps_ret (pe_tup (pa_cons (pe_and (pv 1) (pe_one (pe_cmpR op_eq (pe_ix ix_list (pe_fld (pe_fld (pv 0) rfl) rfl) pe_int (fun _ _ => rfl)) pe_int (nomark _)))) (pa_cons (pe_and (pv 1) (pe_one (pe_cmpR (op_eqD hr.units) (pe_ix ix_list (pe_fld (pe_fld (pv 0) rfl) rfl) pe_int (fun _ _ => rfl)) (pe_tup (pa_cons pe_int (pa_cons pe_int pa_nil))) (nomark _)))) (pa_cons (pe_fld (pe_fld (pv 0) rfl) rfl) pa_nil)))))))
theorem sc_l_cell : FnScope N_l_cell ["_law_script", "_law_k"] (defScope s_l_cell) := ⟨rfl, rfl, rfl, by decide +kernel, rfl, by decide +kernel, by decide +kernel⟩
theorem ok_l_cell (T : Txt2 K mg) (gl : mg "_law_cell" = some (.ref (He.ga K "_law_cell"))) (D : Df K "_law_cell" "_law_cell" s_l_cell (He.ga K "_law_cell"))  : FOk P w K mg base "_law_cell" ["_law_script", "_law_k"] 1 (sp_l_cell K) := by
  refine ⟨gl, ?fn, Df.kp D⟩
  refine fn_by (t := t_l_cell K) D sc_l_cell len_l_cell (fun _ _ _ _ _ _ us hl => match us, hl with | [_, _], _ => rfl) (fun cdv A outer s0 H E hr => ?_) (pur_l_cell T.toTxt.toTxtK)
  exact (pss_cons (ps_if (pt_cmpR op_lt (pv 1) (pe_callB call_len_seq (by rfl) T.len (by decide +kernel) (pa_cons (pv 0) pa_nil)) (nomark _)) (pss_one (ps_ret (pe_ix ix_list (pv 0) (pv 1) (fun _ _ => rfl)))) pss_nil)
      (pss_one (ps_ret pe_int)))
theorem sc_l_mix : FnScope N_l_mix ["_law_cell_here", "_law_prime", "_law_many_here"] (defScope s_l_mix) := ⟨rfl, rfl, rfl, by decide +kernel, rfl, by decide +kernel, by decide +kernel⟩
theorem ok_l_mix (T : Txt2 K mg) (gl : mg "_law_mix" = some (.ref (He.ga K "_law_mix"))) (D : Df K "_law_mix" "_law_mix" s_l_mix (He.ga K "_law_mix"))  : FOk P w K mg base "_law_mix" ["_law_cell_here", "_law_prime", "_law_many_here"] 1 (sp_l_mix K) := by
  refine ⟨gl, ?fn, Df.kp D⟩
  refine fn_by (t := t_l_mix K) D sc_l_mix len_l_mix (fun _ _ _ _ _ _ us hl => match us, hl with | [_, _, _], _ => rfl) (fun cdv A outer s0 H E hr => ?_) (pur_l_mix T.toTxt.toTxtK)
  exact (pss_one (ps_ret (pe_op op_mod (pe_op op_mod (pe_op op_mul (pv 0) pe_int) (pv 1)) (pv 2))))
theorem sc_l_many : FnScope N_l_many ["_law_script"] (defScope s_l_many) := ⟨rfl, rfl, rfl, by decide +kernel, rfl, by decide +kernel, by decide +kernel⟩
theorem ok_l_many (T : Txt2 K mg) (gl : mg "_law_many" = some (.ref (He.ga K "_law_many"))) (D : Df K "_law_many" "_law_many" s_l_many (He.ga K "_law_many")) (G_l_mix : FOk P w K mg base "_law_mix" ["_law_cell_here", "_law_prime", "_law_many_here"] 1 (sp_l_mix K)) (G_l_cell : FOk P w K mg base "_law_cell" ["_law_script", "_law_k"] 1 (sp_l_cell K)) : FOk P w K mg base "_law_many" ["_law_script"] 2 (sp_l_many K) := by
  refine ⟨gl, ?fn, Df.kp D⟩
  refine fn_by (t := t_l_many K) D sc_l_many len_l_many (fun _ _ _ _ _ _ us hl => match us, hl with | [_], _ => rfl) (fun cdv A outer s0 H E hr => ?_) (pur_l_many T.toTxt.toTxtK)
  exact (pss_one (ps_ret (pe_op op_add pe_int (pe_f G_l_mix (hr.mono (by decide)) (by rfl) (pa_cons (pe_f G_l_cell (hr.mono (by decide)) (by rfl) (pa_cons (pv 0) (pa_cons pe_int pa_nil))) (pa_cons pe_int (pa_cons pe_int pa_nil)))))))
theorem sc_l_roads : FnScope N_l_roads ["_law_many_here"] (defScope s_l_roads) := ⟨rfl, rfl, rfl, by decide +kernel, rfl, by decide +kernel, by decide +kernel⟩
theorem ok_l_roads (T : Txt2 K mg) (gl : mg "_law_roads" = some (.ref (He.ga K "_law_roads"))) (D : Df K "_law_roads" "_law_roads" s_l_roads (He.ga K "_law_roads"))  : FOk P w K mg base "_law_roads" ["_law_many_here"] 1 (sp_l_roads K) := by
  refine ⟨gl, ?fn, Df.kp D⟩
  refine fn_by (t := t_l_roads K) D sc_l_roads len_l_roads (fun _ _ _ _ _ _ us hl => match us, hl with | [_], _ => rfl) (fun cdv A outer s0 H E hr => ?_) (pur_l_roads T.toTxt.toTxtK)
  exact (pss_cons (ps_set (i := 1) sc_l_roads.nd rfl (by first | exact Or.inl rfl | exact Or.inr rfl) (pe_lst pa_nil))
      (pss_cons (ps_for PassesOwn.never rfl (pi_range1 rfl T.range (pa_cons (pv 0) pa_nil)) (pg_name (i := 2) sc_l_roads.nd rfl (by first | exact Or.inl rfl | exact Or.inr rfl)) (pss_one (ps_expr (pe_bm PySem.F.plainAttrs_list PySem.F.slot_list_extend PySem.F.type_list_extend mt_extend (pv 1) (pa_cons (pe_lc (own := [("_law_other", 3)]) (g := (gName 3)) (tt := (tTest (tOp rNe (tVar 2) (tVar 3)))) (te := (tTup (tCons (tVar 2) (tCons (tVar 3) tNil)))) rfl sc_l_roads.nd (pi_range1 rfl T.range (pa_cons (pv 0) pa_nil)) (blkOk_by (own := [("_law_other", 3)]) (N := N_l_roads) (sc := defScope s_l_roads) (by decide +kernel)) (fun _ _ _ _ _ => (pg_name (i := 3) sc_l_roads.nd rfl (by first | exact Or.inl rfl | exact Or.inr rfl))) (fun _ _ _ _ _ => pts_one (pt_cmpR op_ne (pv 2) (pv 3) (nomark _))) (fun _ _ _ _ _ => (pe_tup (pa_cons (pv 2) (pa_cons (pv 3) pa_nil))))) pa_nil)))))
      (pss_one (ps_ret (pv 1)))))
theorem sc_l_choices : FnScope N_l_choices ["_law_hall", "_law_many_here", "_law_kind"] (defScope s_l_choices) := ⟨rfl, rfl, rfl, by decide +kernel, rfl, by decide +kernel, by decide +kernel⟩
theorem ok_l_choices (T : Txt2 K mg) (gl : mg "_law_choices" = some (.ref (He.ga K "_law_choices"))) (D : Df K "_law_choices" "_law_choices" s_l_choices (He.ga K "_law_choices")) (G_l_roads : FOk P w K mg base "_law_roads" ["_law_many_here"] 1 (sp_l_roads K)) (G_Hall_working : MOk P w K mg base "Hall" "working" ["self"] 1 (sp_Hall_working K)) (G_Hall_works : MOk P w K mg base "Hall" "works" ["self", "one", "other"] 3 (sp_Hall_works K)) (G_Hall_receipts : MOk P w K mg base "Hall" "receipts" ["self", "one", "other"] 3 (sp_Hall_receipts K)) (G_Hall_weights_home : MOk P w K mg base "Hall" "weights_home" ["self", "hand"] 2 (sp_Hall_weights_home K)) (G_Hall_token : MOk P w K mg base "Hall" "token" ["self"] 1 (sp_Hall_token K)) : FOk P w K mg base "_law_choices" ["_law_hall", "_law_many_here", "_law_kind"] 4 (sp_l_choices K) := by
  refine ⟨gl, ?fn, Df.kp D⟩
  refine fn_by (t := t_l_choices K) D sc_l_choices len_l_choices (fun _ _ _ _ _ _ us hl => match us, hl with | [_, _, _], _ => rfl) (fun cdv A outer s0 H E hr => ?_) (pur_l_choices T.toTxt.toTxtK)
  exact (pss_cons (ps_set (i := 3) sc_l_choices.nd rfl (by first | exact Or.inl rfl | exact Or.inr rfl) (pe_f G_l_roads (hr.mono (by decide)) (by rfl) (pa_cons (pv 1) pa_nil)))
      (pss_cons (ps_if (pt_cmpR op_lt (pv 2) pe_int (nomark _)) (pss_one (ps_ret (pe_lc (own := [("_law_road", 5)]) (g := (gName 5)) (tt := (tTest (tOp (rIn K false) (tOp (rIxT K) (tVar 5) (tC (.int 0))) (tMeth (He.ga K "Hall") "working" (sp_Hall_working K) [] E0 (tVar 0) tNil)))) (te := (tOp (rCatT K) (tTup (tCons (tC (.str "send")) tNil)) (tVar 5))) rfl sc_l_choices.nd (pi_list (pv 3)) (blkOk_by (own := [("_law_road", 5)]) (N := N_l_choices) (sc := defScope s_l_choices) (by decide +kernel)) (fun _ _ _ _ _ => (pg_name (i := 5) sc_l_choices.nd rfl (by first | exact Or.inl rfl | exact Or.inr rfl))) (fun _ _ _ _ _ => pts_one (pt_cmpR op_in_seq (pe_ix ix_tup (pv 5) pe_int (fun _ _ => rfl)) (pe_m0 (pv 0) T.clHall G_Hall_working (hr.mono (by decide))) (by with_unfolding_all rfl))) (fun _ _ _ _ _ => (pe_op op_catT (pe_tup (pa_cons pe_str pa_nil)) (pv 5)))))) pss_nil)
      (pss_cons (ps_if (pt_cmpR op_lt (pv 2) pe_int (nomark _)) (pss_one (ps_ret (pe_lc (own := [("_law_road", 5)]) (g := (gName 5)) (tt := (tTest (tOp rGtI (tMeth (He.ga K "Hall") "works" (sp_Hall_works K) [] E0 (tVar 0) (tCons (tOp (rIxT K) (tVar 5) (tC (.int 0))) (tCons (tOp (rIxT K) (tVar 5) (tC (.int 1))) tNil))) (tC (.int 0))))) (te := (tOp (rCatT K) (tTup (tCons (tC (.str "take")) tNil)) (tVar 5))) rfl sc_l_choices.nd (pi_list (pv 3)) (blkOk_by (own := [("_law_road", 5)]) (N := N_l_choices) (sc := defScope s_l_choices) (by decide +kernel)) (fun _ _ _ _ _ => (pg_name (i := 5) sc_l_choices.nd rfl (by first | exact Or.inl rfl | exact Or.inr rfl))) (fun _ _ _ _ _ => pts_one (pt_cmpR op_gt (pe_m (pv 0) T.clHall G_Hall_works (hr.mono (by decide)) (pa_cons (pe_ix ix_tup (pv 5) pe_int (fun _ _ => rfl)) (pa_cons (pe_ix ix_tup (pv 5) pe_int (fun _ _ => rfl)) pa_nil))) pe_int (nomark _))) (fun _ _ _ _ _ => (pe_op op_catT (pe_tup (pa_cons pe_str pa_nil)) (pv 5)))))) pss_nil)
      (pss_cons (ps_if (pt_cmpR op_lt (pv 2) pe_int (nomark _)) (pss_one (ps_ret (pe_lc (own := [("_law_hand", 4)]) (g := (gName 4)) (tt := tYes) (te := (tTup (tCons (tC (.str "rest")) (tCons (tVar 4) tNil)))) rfl sc_l_choices.nd (pi_tup (pe_m0 (pv 0) T.clHall G_Hall_working (hr.mono (by decide)))) (blkOk_by (own := [("_law_hand", 4)]) (N := N_l_choices) (sc := defScope s_l_choices) (by decide +kernel)) (fun _ _ _ _ _ => (pg_name (i := 4) sc_l_choices.nd rfl (by first | exact Or.inl rfl | exact Or.inr rfl))) (fun _ _ _ _ _ => pts_nil) (fun _ _ _ _ _ => (pe_tup (pa_cons pe_str (pa_cons (pv 4) pa_nil))))))) pss_nil)
      (pss_cons (ps_if (pt_cmpR op_lt (pv 2) pe_int (nomark _)) (pss_one (ps_ret (pe_lc (own := [("_law_road", 5)]) (g := (gName 5)) (tt := (tTest (tOp rGtI (tMeth (He.ga K "Hall") "receipts" (sp_Hall_receipts K) [] E0 (tVar 0) (tCons (tOp (rIxT K) (tVar 5) (tC (.int 0))) (tCons (tOp (rIxT K) (tVar 5) (tC (.int 1))) tNil))) (tC (.int 0))))) (te := (tOp (rCatT K) (tTup (tCons (tC (.str "back")) tNil)) (tVar 5))) rfl sc_l_choices.nd (pi_list (pv 3)) (blkOk_by (own := [("_law_road", 5)]) (N := N_l_choices) (sc := defScope s_l_choices) (by decide +kernel)) (fun _ _ _ _ _ => (pg_name (i := 5) sc_l_choices.nd rfl (by first | exact Or.inl rfl | exact Or.inr rfl))) (fun _ _ _ _ _ => pts_one (pt_cmpR op_gt (pe_m (pv 0) T.clHall G_Hall_receipts (hr.mono (by decide)) (pa_cons (pe_ix ix_tup (pv 5) pe_int (fun _ _ => rfl)) (pa_cons (pe_ix ix_tup (pv 5) pe_int (fun _ _ => rfl)) pa_nil))) pe_int (nomark _))) (fun _ _ _ _ _ => (pe_op op_catT (pe_tup (pa_cons pe_str pa_nil)) (pv 5)))))) pss_nil)
      (pss_cons (ps_if (pt_cmpR op_eq (pv 2) pe_int (nomark _)) (pss_one (ps_ret (pe_lc (own := [("_law_hand", 4)]) (g := (gName 4)) (tt := (tTest (tOp rGtI (tCB (rLenS K) (tCons (tMeth (He.ga K "Hall") "weights_home" (sp_Hall_weights_home K) [] E0 (tVar 0) (tCons (tVar 4) tNil)) tNil)) (tC (.int 0))))) (te := (tTup (tCons (tC (.str "home")) (tCons (tVar 4) tNil)))) rfl sc_l_choices.nd (pi_range2 rfl T.range (pa_cons pe_int (pa_cons (pv 1) pa_nil))) (blkOk_by (own := [("_law_hand", 4)]) (N := N_l_choices) (sc := defScope s_l_choices) (by decide +kernel)) (fun _ _ _ _ _ => (pg_name (i := 4) sc_l_choices.nd rfl (by first | exact Or.inl rfl | exact Or.inr rfl))) (fun _ _ _ _ _ => pts_one (pt_cmpR op_gt (pe_callB call_len_seq (by rfl) T.len (by decide +kernel) (pa_cons (pe_m (pv 0) T.clHall G_Hall_weights_home (hr.mono (by decide)) (pa_cons (pv 4) pa_nil)) pa_nil)) pe_int (nomark _))) (fun _ _ _ _ _ => (pe_tup (pa_cons pe_str (pa_cons (pv 4) pa_nil))))))) pss_nil)
      (pss_one (ps_ret (pe_lc (own := [("_law_hand", 4)]) (g := (gName 4)) (tt := (tTest (tOp (rIn K true) (tVar 4) (tMeth (He.ga K "Hall") "working" (sp_Hall_working K) [] E0 (tVar 0) tNil)))) (te := (tTup (tCons (tC (.str "pass")) tNil))) rfl sc_l_choices.nd (pi_list (pe_lst (pa_cons (pe_ix ix_tup (pe_m0 (pv 0) T.clHall G_Hall_token (hr.mono (by decide))) pe_int (fun _ _ => rfl)) pa_nil))) (blkOk_by (own := [("_law_hand", 4)]) (N := N_l_choices) (sc := defScope s_l_choices) (by decide +kernel)) (fun _ _ _ _ _ => (pg_name (i := 4) sc_l_choices.nd rfl (by first | exact Or.inl rfl | exact Or.inr rfl))) (fun _ _ _ _ _ => pts_one (pt_cmpR op_notIn_seq (pv 4) (pe_m0 (pv 0) T.clHall G_Hall_working (hr.mono (by decide))) (by with_unfolding_all rfl))) (fun _ _ _ _ _ => (pe_tup (pa_cons pe_str pa_nil))))))))))))
theorem sc_l_act : FnScope N_l_act ["_law_hall", "_law_many_here", "_law_cell_here"] (defScope s_l_act) := ⟨rfl, rfl, rfl, by decide +kernel, rfl, by decide +kernel, by decide +kernel⟩
theorem ok_l_act (T : Txt2 K mg) (gl : mg "_law_act" = some (.ref (He.ga K "_law_act"))) (D : Df K "_law_act" "_law_act" s_l_act (He.ga K "_law_act")) (G_l_choices : FOk P w K mg base "_law_choices" ["_law_hall", "_law_many_here", "_law_kind"] 4 (sp_l_choices K)) (G_l_mix : FOk P w K mg base "_law_mix" ["_law_cell_here", "_law_prime", "_law_many_here"] 1 (sp_l_mix K)) : FOk P w K mg base "_law_act" ["_law_hall", "_law_many_here", "_law_cell_here"] 5 (sp_l_act K) := by
  refine ⟨gl, ?fn, Df.kp D⟩
  refine fn_by (t := t_l_act K) D sc_l_act len_l_act (fun _ _ _ _ _ _ us hl => match us, hl with | [_, _, _], _ => rfl) (fun cdv A outer s0 H E hr => ?_) (pur_l_act T.toTxt.toTxtK)
  exact (pss_cons (ps_set (i := 3) sc_l_act.nd rfl (by first | exact Or.inl rfl | exact Or.inr rfl) (pe_f G_l_choices (hr.mono (by decide)) (by rfl) (pa_cons (pv 0) (pa_cons (pv 1) (pa_cons (pe_f G_l_mix (hr.mono (by decide)) (by rfl) (pa_cons (pv 2) (pa_cons pe_int (pa_cons pe_int pa_nil)))) pa_nil)))))
      (pss_cons (ps_if (pt_not (pt_truth (pv 3) (by intro _; rfl))) (pss_one (ps_set (i := 3) sc_l_act.nd rfl (by first | exact Or.inl rfl | exact Or.inr rfl) (pe_f G_l_choices (hr.mono (by decide)) (by rfl) (pa_cons (pv 0) (pa_cons (pv 1) (pa_cons (pe_f G_l_mix (hr.mono (by decide)) (by rfl) (pa_cons (pv 2) (pa_cons pe_int (pa_cons pe_int pa_nil)))) pa_nil)))))) pss_nil)
      (pss_cons (ps_if (pt_not (pt_truth (pv 3) (by intro _; rfl))) (pss_one (ps_ret pe_non)) pss_nil)
      (pss_one (ps_ret (pe_ix ix_list (pv 3) (pe_f G_l_mix (hr.mono (by decide)) (by rfl) (pa_cons (pv 2) (pa_cons pe_int (pa_cons (pe_callB call_len_seq (by rfl) T.len (by decide +kernel) (pa_cons (pv 3) pa_nil)) pa_nil)))) (fun _ _ => rfl)))))))
theorem sc_l_do : FnScope N_l_do ["_law_hall", "_law_act_here"] (defScope s_l_do) := ⟨rfl, rfl, rfl, by decide +kernel, rfl, by decide +kernel, by decide +kernel⟩
theorem ok_l_do (T : Txt2 K mg) (gl : mg "_law_do" = some (.ref (He.ga K "_law_do"))) (D : Df K "_law_do" "_law_do" s_l_do (He.ga K "_law_do")) (G_Hall_send : MOk P w K mg base "Hall" "send" ["self", "one", "other"] 4 (sp_Hall_send K)) (G_Hall_take : MOk P w K mg base "Hall" "take" ["self", "one", "other"] 4 (sp_Hall_take K)) (G_Hall_rest : MOk P w K mg base "Hall" "rest" ["self", "hand"] 3 (sp_Hall_rest K)) (G_Hall_back : MOk P w K mg base "Hall" "back" ["self", "one", "other"] 4 (sp_Hall_back K)) (G_Hall_home : MOk P w K mg base "Hall" "home" ["self", "hand"] 5 (sp_Hall_home K)) (G_Hall_pass_on : MOk P w K mg base "Hall" "pass_on" ["self"] 2 (sp_Hall_pass_on K)) : FOk P w K mg base "_law_do" ["_law_hall", "_law_act_here"] 6 (sp_l_do K) := by
  refine ⟨gl, ?fn, Df.kp D⟩
  refine fn_by (t := t_l_do K) D sc_l_do len_l_do (fun _ _ _ _ _ _ us hl => match us, hl with | [_, _], _ => rfl) (fun cdv A outer s0 H E hr => ?_) (pur_l_do T.toTxt.toTxtK)
  exact (pss_cons (ps_if (pt_cmpR op_eq (pe_ix ix_tup (pv 1) pe_int (fun _ _ => rfl)) pe_str (nomark _)) (pss_one (ps_ret (pe_m (pv 0) T.clHall G_Hall_send (hr.mono (by decide)) (pa_cons (pe_ix ix_tup (pv 1) pe_int (fun _ _ => rfl)) (pa_cons (pe_ix ix_tup (pv 1) pe_int (fun _ _ => rfl)) pa_nil))))) pss_nil)
      (pss_cons (ps_if (pt_cmpR op_eq (pe_ix ix_tup (pv 1) pe_int (fun _ _ => rfl)) pe_str (nomark _)) (pss_one (ps_ret (pe_m (pv 0) T.clHall G_Hall_take (hr.mono (by decide)) (pa_cons (pe_ix ix_tup (pv 1) pe_int (fun _ _ => rfl)) (pa_cons (pe_ix ix_tup (pv 1) pe_int (fun _ _ => rfl)) pa_nil))))) pss_nil)
      (pss_cons (ps_if (pt_cmpR op_eq (pe_ix ix_tup (pv 1) pe_int (fun _ _ => rfl)) pe_str (nomark _)) (pss_one (ps_ret (pe_m (pv 0) T.clHall G_Hall_rest (hr.mono (by decide)) (pa_cons (pe_ix ix_tup (pv 1) pe_int (fun _ _ => rfl)) pa_nil)))) pss_nil)
      (pss_cons (ps_if (pt_cmpR op_eq (pe_ix ix_tup (pv 1) pe_int (fun _ _ => rfl)) pe_str (nomark _)) (pss_one (ps_ret (pe_m (pv 0) T.clHall G_Hall_back (hr.mono (by decide)) (pa_cons (pe_ix ix_tup (pv 1) pe_int (fun _ _ => rfl)) (pa_cons (pe_ix ix_tup (pv 1) pe_int (fun _ _ => rfl)) pa_nil))))) pss_nil)
      (pss_cons (ps_if (pt_cmpR op_eq (pe_ix ix_tup (pv 1) pe_int (fun _ _ => rfl)) pe_str (nomark _)) (pss_one (ps_ret (pe_m (pv 0) T.clHall G_Hall_home (hr.mono (by decide)) (pa_cons (pe_ix ix_tup (pv 1) pe_int (fun _ _ => rfl)) pa_nil)))) pss_nil)
      (pss_one (ps_ret (pe_m0 (pv 0) T.clHall G_Hall_pass_on (hr.mono (by decide))))))))))
theorem sc_l_play : FnScope N_l_play ["_law_hall", "_law_many_here", "_law_cells"] (defScope s_l_play) := ⟨rfl, rfl, rfl, by decide +kernel, rfl, by decide +kernel, by decide +kernel⟩
theorem ok_l_play (T : Txt2 K mg) (gl : mg "_law_play" = some (.ref (He.ga K "_law_play"))) (D : Df K "_law_play" "_law_play" s_l_play (He.ga K "_law_play")) (G_l_act : FOk P w K mg base "_law_act" ["_law_hall", "_law_many_here", "_law_cell_here"] 5 (sp_l_act K)) (G_l_do : FOk P w K mg base "_law_do" ["_law_hall", "_law_act_here"] 6 (sp_l_do K)) : FOk P w K mg base "_law_play" ["_law_hall", "_law_many_here", "_law_cells"] 7 (sp_l_play K) := by
  refine ⟨gl, ?fn, Df.kp D⟩
  refine fn_by (t := t_l_play K) D sc_l_play len_l_play (fun _ _ _ _ _ _ us hl => match us, hl with | [_, _, _], _ => rfl) (fun cdv A outer s0 H E hr => ?_) (pur_l_play T.toTxt.toTxtK)
  exact (pss_cons (ps_for PassesOwn.never rfl (pi_list (pv 2)) (pg_name (i := 3) sc_l_play.nd rfl (by first | exact Or.inl rfl | exact Or.inr rfl)) (pss_cons (ps_set (i := 4) sc_l_play.nd rfl (by first | exact Or.inl rfl | exact Or.inr rfl) (pe_f G_l_act (hr.mono (by decide)) (by rfl) (pa_cons (pv 0) (pa_cons (pv 1) (pa_cons (pv 3) pa_nil)))))
      (pss_one (ps_if (pt_cmp (pc_notN (pv 4))) (pss_one (ps_expr (pe_f G_l_do (hr.mono (by decide)) (by rfl) (pa_cons (pv 0) (pa_cons (pv 4) pa_nil))))) pss_nil))))
      (pss_one (ps_ret pe_non)))
theorem sc_l_shown : FnScope N_l_shown ["_law_hall", "_law_many_here"] (defScope s_l_shown) := ⟨rfl, rfl, rfl, by decide +kernel, rfl, by decide +kernel, by decide +kernel⟩
theorem ok_l_shown (T : Txt2 K mg) (gl : mg "_law_shown" = some (.ref (He.ga K "_law_shown"))) (D : Df K "_law_shown" "_law_shown" s_l_shown (He.ga K "_law_shown")) (G_l_roads : FOk P w K mg base "_law_roads" ["_law_many_here"] 1 (sp_l_roads K)) (G_Hall_working : MOk P w K mg base "Hall" "working" ["self"] 1 (sp_Hall_working K)) (G_Hall_is_quiet : MOk P w K mg base "Hall" "is_quiet" ["self"] 1 (sp_Hall_is_quiet K)) (G_Hall_token : MOk P w K mg base "Hall" "token" ["self"] 1 (sp_Hall_token K)) (G_Hall_told : MOk P w K mg base "Hall" "told" ["self"] 1 (sp_Hall_told K)) (G_Hall_works : MOk P w K mg base "Hall" "works" ["self", "one", "other"] 3 (sp_Hall_works K)) (G_Hall_receipts : MOk P w K mg base "Hall" "receipts" ["self", "one", "other"] 3 (sp_Hall_receipts K)) (G_Hall_weights_on : MOk P w K mg base "Hall" "weights_on" ["self", "one", "other"] 3 (sp_Hall_weights_on K)) (G_Hall_open_of : MOk P w K mg base "Hall" "open_of" ["self", "hand"] 2 (sp_Hall_open_of K)) (G_Hall_above : MOk P w K mg base "Hall" "above" ["self", "hand"] 2 (sp_Hall_above K)) (G_Hall_weight_of : MOk P w K mg base "Hall" "weight_of" ["self", "hand"] 2 (sp_Hall_weight_of K)) (G_Hall_weights_home : MOk P w K mg base "Hall" "weights_home" ["self", "hand"] 2 (sp_Hall_weights_home K)) (G_Hall_count_of : MOk P w K mg base "Hall" "count_of" ["self", "hand"] 2 (sp_Hall_count_of K)) (G_Hall_colour_of : MOk P w K mg base "Hall" "colour_of" ["self", "hand"] 2 (sp_Hall_colour_of K)) : FOk P w K mg base "_law_shown" ["_law_hall", "_law_many_here"] 4 (sp_l_shown K) := by
  refine ⟨gl, ?fn, Df.kp D⟩
  refine fn_by (t := t_l_shown K) D sc_l_shown len_l_shown (fun _ _ _ _ _ _ us hl => match us, hl with | [_, _], _ => rfl) (fun cdv A outer s0 H E hr => ?_) (pur_l_shown T.toTxt.toTxtK)
  exact (pss_cons (ps_set (i := 2) sc_l_shown.nd rfl (by first | exact Or.inl rfl | exact Or.inr rfl) (pe_f G_l_roads (hr.mono (by decide)) (by rfl) (pa_cons (pv 1) pa_nil)))
      (pss_cons (ps_set (i := 3) sc_l_shown.nd rfl (by first | exact Or.inl rfl | exact Or.inr rfl) (pe_lst (pa_cons (pe_m0 (pv 0) T.clHall G_Hall_working (hr.mono (by decide))) (pa_cons (pe_m0 (pv 0) T.clHall G_Hall_is_quiet (hr.mono (by decide))) (pa_cons (pe_m0 (pv 0) T.clHall G_Hall_token (hr.mono (by decide))) (pa_cons (pe_m0 (pv 0) T.clHall G_Hall_told (hr.mono (by decide))) pa_nil))))))
      (pss_cons (ps_expr (pe_bm PySem.F.plainAttrs_list PySem.F.slot_list_append PySem.F.type_list_append mt_append (pv 3) (pa_cons (pe_lc (own := [("_law_one", 5), ("_law_other", 6)]) (g := (gTup K 2 (gCons (gName 5) (gCons (gName 6) gNil)))) (tt := tYes) (te := (tMeth (He.ga K "Hall") "works" (sp_Hall_works K) [] E0 (tVar 0) (tCons (tVar 5) (tCons (tVar 6) tNil)))) rfl sc_l_shown.nd (pi_list (pv 2)) (blkOk_by (own := [("_law_one", 5), ("_law_other", 6)]) (N := N_l_shown) (sc := defScope s_l_shown) (by decide +kernel)) (fun _ _ _ _ _ => (pg_tup rfl (pgs_cons (pg_name (i := 5) sc_l_shown.nd rfl (by first | exact Or.inl rfl | exact Or.inr rfl)) (pgs_cons (pg_name (i := 6) sc_l_shown.nd rfl (by first | exact Or.inl rfl | exact Or.inr rfl)) pgs_nil)))) (fun _ _ _ _ _ => pts_nil) (fun _ _ _ _ _ => (pe_m (pv 0) T.clHall G_Hall_works (hr.mono (by decide)) (pa_cons (pv 5) (pa_cons (pv 6) pa_nil))))) pa_nil)))
      (pss_cons (ps_expr (pe_bm PySem.F.plainAttrs_list PySem.F.slot_list_append PySem.F.type_list_append mt_append (pv 3) (pa_cons (pe_lc (own := [("_law_one", 5), ("_law_other", 6)]) (g := (gTup K 2 (gCons (gName 5) (gCons (gName 6) gNil)))) (tt := tYes) (te := (tMeth (He.ga K "Hall") "receipts" (sp_Hall_receipts K) [] E0 (tVar 0) (tCons (tVar 5) (tCons (tVar 6) tNil)))) rfl sc_l_shown.nd (pi_list (pv 2)) (blkOk_by (own := [("_law_one", 5), ("_law_other", 6)]) (N := N_l_shown) (sc := defScope s_l_shown) (by decide +kernel)) (fun _ _ _ _ _ => (pg_tup rfl (pgs_cons (pg_name (i := 5) sc_l_shown.nd rfl (by first | exact Or.inl rfl | exact Or.inr rfl)) (pgs_cons (pg_name (i := 6) sc_l_shown.nd rfl (by first | exact Or.inl rfl | exact Or.inr rfl)) pgs_nil)))) (fun _ _ _ _ _ => pts_nil) (fun _ _ _ _ _ => (pe_m (pv 0) T.clHall G_Hall_receipts (hr.mono (by decide)) (pa_cons (pv 5) (pa_cons (pv 6) pa_nil))))) pa_nil)))
      (pss_cons (ps_expr (pe_bm PySem.F.plainAttrs_list PySem.F.slot_list_append PySem.F.type_list_append mt_append (pv 3) (pa_cons (pe_lc (own := [("_law_one", 5), ("_law_other", 6)]) (g := (gTup K 2 (gCons (gName 5) (gCons (gName 6) gNil)))) (tt := tYes) (te := (tMeth (He.ga K "Hall") "weights_on" (sp_Hall_weights_on K) [] E0 (tVar 0) (tCons (tVar 5) (tCons (tVar 6) tNil)))) rfl sc_l_shown.nd (pi_list (pv 2)) (blkOk_by (own := [("_law_one", 5), ("_law_other", 6)]) (N := N_l_shown) (sc := defScope s_l_shown) (by decide +kernel)) (fun _ _ _ _ _ => (pg_tup rfl (pgs_cons (pg_name (i := 5) sc_l_shown.nd rfl (by first | exact Or.inl rfl | exact Or.inr rfl)) (pgs_cons (pg_name (i := 6) sc_l_shown.nd rfl (by first | exact Or.inl rfl | exact Or.inr rfl)) pgs_nil)))) (fun _ _ _ _ _ => pts_nil) (fun _ _ _ _ _ => (pe_m (pv 0) T.clHall G_Hall_weights_on (hr.mono (by decide)) (pa_cons (pv 5) (pa_cons (pv 6) pa_nil))))) pa_nil)))
      (pss_cons (ps_for PassesOwn.never rfl (pi_range1 rfl T.range (pa_cons (pv 1) pa_nil)) (pg_name (i := 4) sc_l_shown.nd rfl (by first | exact Or.inl rfl | exact Or.inr rfl)) (pss_cons (ps_expr (pe_bm PySem.F.plainAttrs_list PySem.F.slot_list_append PySem.F.type_list_append mt_append (pv 3) (pa_cons (pe_tup (pa_cons (pe_m (pv 0) T.clHall G_Hall_open_of (hr.mono (by decide)) (pa_cons (pv 4) pa_nil)) (pa_cons (pe_m (pv 0) T.clHall G_Hall_above (hr.mono (by decide)) (pa_cons (pv 4) pa_nil)) (pa_cons (pe_m (pv 0) T.clHall G_Hall_weight_of (hr.mono (by decide)) (pa_cons (pv 4) pa_nil)) (pa_cons (pe_m (pv 0) T.clHall G_Hall_weights_home (hr.mono (by decide)) (pa_cons (pv 4) pa_nil)) pa_nil))))) pa_nil)))
      (pss_one (ps_expr (pe_bm PySem.F.plainAttrs_list PySem.F.slot_list_append PySem.F.type_list_append mt_append (pv 3) (pa_cons (pe_tup (pa_cons (pe_m (pv 0) T.clHall G_Hall_count_of (hr.mono (by decide)) (pa_cons (pv 4) pa_nil)) (pa_cons (pe_m (pv 0) T.clHall G_Hall_colour_of (hr.mono (by decide)) (pa_cons (pv 4) pa_nil)) pa_nil))) pa_nil))))))
      (pss_one (ps_ret (pv 3)))))))))
theorem sc_l_can : FnScope N_l_can ["_law_hall", "_law_way", "_law_one", "_law_other"] (defScope s_l_can) := ⟨rfl, rfl, rfl, by decide +kernel, rfl, by decide +kernel, by decide +kernel⟩
theorem ok_l_can (T : Txt2 K mg) (gl : mg "_law_can" = some (.ref (He.ga K "_law_can"))) (D : Df K "_law_can" "_law_can" s_l_can (He.ga K "_law_can")) (G_Hall_working : MOk P w K mg base "Hall" "working" ["self"] 1 (sp_Hall_working K)) (G_Hall_works : MOk P w K mg base "Hall" "works" ["self", "one", "other"] 3 (sp_Hall_works K)) (G_Hall_receipts : MOk P w K mg base "Hall" "receipts" ["self", "one", "other"] 3 (sp_Hall_receipts K)) (G_Hall_weights_home : MOk P w K mg base "Hall" "weights_home" ["self", "hand"] 2 (sp_Hall_weights_home K)) : FOk P w K mg base "_law_can" ["_law_hall", "_law_way", "_law_one", "_law_other"] 4 (sp_l_can K) := by
  refine ⟨gl, ?fn, Df.kp D⟩
  refine fn_by (t := t_l_can K) D sc_l_can len_l_can (fun _ _ _ _ _ _ us hl => match us, hl with | [_, _, _, _], _ => rfl) (fun cdv A outer s0 H E hr => ?_) (pur_l_can T.toTxt.toTxtK)
  exact (pss_cons (ps_if (PW.pt (pw_or (pt_cmpR op_eq (pv 1) pe_int (nomark _)) (pw_or1 (pt_cmpR op_eq (pv 1) pe_int (nomark _))))) (pss_one (ps_ret (pe_cmpR op_in_seq (pv 2) (pe_m0 (pv 0) T.clHall G_Hall_working (hr.mono (by decide))) (by with_unfolding_all rfl)))) pss_nil)
      (pss_cons (ps_if (pt_cmpR op_eq (pv 1) pe_int (nomark _)) (pss_one (ps_ret (pe_cmpR op_gt (pe_m (pv 0) T.clHall G_Hall_works (hr.mono (by decide)) (pa_cons (pv 2) (pa_cons (pv 3) pa_nil))) pe_int (nomark _)))) pss_nil)
      (pss_cons (ps_if (pt_cmpR op_eq (pv 1) pe_int (nomark _)) (pss_one (ps_ret (pe_cmpR op_gt (pe_m (pv 0) T.clHall G_Hall_receipts (hr.mono (by decide)) (pa_cons (pv 2) (pa_cons (pv 3) pa_nil))) pe_int (nomark _)))) pss_nil)
      (pss_one (ps_ret (pe_or (pe_cmpR op_ne (pv 1) pe_int (nomark _)) (pe_one (pe_cmpR op_gt (pe_callB call_len_seq (by rfl) T.len (by decide +kernel) (pa_cons (pe_m (pv 0) T.clHall G_Hall_weights_home (hr.mono (by decide)) (pa_cons (pv 2) pa_nil)) pa_nil)) pe_int (nomark _)))))))))
theorem lenX_Hall_must_be {K : PySem.W.Frag} : ∀ vs H Q E, spX_Hall_must_be K vs H Q E → vs.length = 2 := by
  intro vs H Q E h
  first | (obtain ⟨_, rfl, _⟩ := h; rfl) | (obtain ⟨_, _, rfl, _⟩ := h; rfl) | (obtain ⟨_, _, _, rfl, _⟩ := h; rfl) | (obtain ⟨_, _, _, _, rfl, _⟩ := h; rfl) | (obtain ⟨_, _, _, _, _, rfl, _⟩ := h; rfl) | (obtain ⟨_, _, _, _, _, _, rfl, _⟩ := h; rfl) | (obtain ⟨_, _, _, _, _, _, _, rfl, _⟩ := h; rfl) | (obtain ⟨_, _, _, _, _, _, _, _, rfl, _⟩ := h; rfl)
theorem okX_Hall_must_be (T : Txt2 K mg) (TX : TxX K mg) (mt : Meth K (He.ga K "Hall") "must_be" (He.ma K (He.ga K "Hall") "must_be")) (D : Df K "must_be" "Hall.must_be" s_Hall_must_be (He.ma K (He.ga K "Hall") "must_be"))   : MOkX P w K mg base "Hall" "must_be" ["self", "hand"] 1 (spX_Hall_must_be K) := by
  refine ⟨mt, ?fn⟩
  refine fn_byX (t := tX_Hall_must_be K) D sc_Hall_must_be lenX_Hall_must_be (fun _ _ _ _ _ _ us hl => match us, hl with | [_, _], _ => rfl) (fun cdv A outer s0 H E hr tk => ?_) (purX_Hall_must_be T.toTxt.toTxtK)
  exact (pss_one (ps_if (pt_not (pt_chain op_le op_lt pe_int (pv 1) (pe_fld (pv 0) rfl))) (pss_one (ps_raise rfl tk (pmk_own PySem.F.excBase_ValueError TX.NoHand.xx TX.NoHand.g TX.NoHand.k (raises_own TX.NoHand.b TX.NoHand.t) (by rfl)))) pss_nil))
theorem lenX_Hall_must_be_two {K : PySem.W.Frag} : ∀ vs H Q E, spX_Hall_must_be_two K vs H Q E → vs.length = 3 := by
  intro vs H Q E h
  first | (obtain ⟨_, rfl, _⟩ := h; rfl) | (obtain ⟨_, _, rfl, _⟩ := h; rfl) | (obtain ⟨_, _, _, rfl, _⟩ := h; rfl) | (obtain ⟨_, _, _, _, rfl, _⟩ := h; rfl) | (obtain ⟨_, _, _, _, _, rfl, _⟩ := h; rfl) | (obtain ⟨_, _, _, _, _, _, rfl, _⟩ := h; rfl) | (obtain ⟨_, _, _, _, _, _, _, rfl, _⟩ := h; rfl) | (obtain ⟨_, _, _, _, _, _, _, _, rfl, _⟩ := h; rfl)
theorem okX_Hall_must_be_two (T : Txt2 K mg) (TX : TxX K mg) (mt : Meth K (He.ga K "Hall") "must_be_two" (He.ma K (He.ga K "Hall") "must_be_two")) (D : Df K "must_be_two" "Hall.must_be_two" s_Hall_must_be_two (He.ma K (He.ga K "Hall") "must_be_two"))  (X_Hall_must_be : MOkX P w K mg base "Hall" "must_be" ["self", "hand"] 1 (spX_Hall_must_be K)) : MOkX P w K mg base "Hall" "must_be_two" ["self", "one", "other"] 2 (spX_Hall_must_be_two K) := by
  refine ⟨mt, ?fn⟩
  refine fn_byX (t := tX_Hall_must_be_two K) D sc_Hall_must_be_two lenX_Hall_must_be_two (fun _ _ _ _ _ _ us hl => match us, hl with | [_, _, _], _ => rfl) (fun cdv A outer s0 H E hr tk => ?_) (purX_Hall_must_be_two T.toTxt.toTxtK)
  exact (pss_cons (ps_expr (pe_mX (pv 0) T.clHall X_Hall_must_be (hr.mono (by decide)) tk (pa_cons (pv 1) pa_nil)))
      (pss_cons (ps_expr (pe_mX (pv 0) T.clHall X_Hall_must_be (hr.mono (by decide)) tk (pa_cons (pv 2) pa_nil)))
      (pss_one (ps_if (pt_cmpR op_eq (pv 1) (pv 2) (nomark _)) (pss_one (ps_raise rfl tk (pmk_own PySem.F.excBase_ValueError TX.NoHand.xx TX.NoHand.g TX.NoHand.k (raises_own TX.NoHand.b TX.NoHand.t) (by rfl)))) pss_nil))))
theorem lenX_Hall_must {K : PySem.W.Frag} : ∀ vs H Q E, spX_Hall_must K vs H Q E → vs.length = 2 := by
  intro vs H Q E h
  first | (obtain ⟨_, rfl, _⟩ := h; rfl) | (obtain ⟨_, _, rfl, _⟩ := h; rfl) | (obtain ⟨_, _, _, rfl, _⟩ := h; rfl) | (obtain ⟨_, _, _, _, rfl, _⟩ := h; rfl) | (obtain ⟨_, _, _, _, _, rfl, _⟩ := h; rfl) | (obtain ⟨_, _, _, _, _, _, rfl, _⟩ := h; rfl) | (obtain ⟨_, _, _, _, _, _, _, rfl, _⟩ := h; rfl) | (obtain ⟨_, _, _, _, _, _, _, _, rfl, _⟩ := h; rfl)
theorem okX_Hall_must (T : Txt2 K mg) (TX : TxX K mg) (mt : Meth K (He.ga K "Hall") "must" (He.ma K (He.ga K "Hall") "must")) (D : Df K "must" "Hall.must" s_Hall_must (He.ma K (He.ga K "Hall") "must"))   : MOkX P w K mg base "Hall" "must" ["self", "holds"] 1 (spX_Hall_must K) := by
  refine ⟨mt, ?fn⟩
  refine fn_byX (t := tX_Hall_must K) D sc_Hall_must lenX_Hall_must (fun _ _ _ _ _ _ us hl => match us, hl with | [_, _], _ => rfl) (fun cdv A outer s0 H E hr tk => ?_) (purX_Hall_must T.toTxt.toTxtK)
  exact (pss_one (ps_if (pt_not (pt_val (pv 1))) (pss_one (ps_raise rfl tk (pmk_own PySem.F.excBase_ValueError TX.NotNow.xx TX.NotNow.g TX.NotNow.k (raises_own TX.NotNow.b TX.NotNow.t) (by rfl)))) pss_nil))
theorem lenX_Hall_works {K : PySem.W.Frag} : ∀ vs H Q E, spX_Hall_works K vs H Q E → vs.length = 3 := by
  intro vs H Q E h
  first | (obtain ⟨_, rfl, _⟩ := h; rfl) | (obtain ⟨_, _, rfl, _⟩ := h; rfl) | (obtain ⟨_, _, _, rfl, _⟩ := h; rfl) | (obtain ⟨_, _, _, _, rfl, _⟩ := h; rfl) | (obtain ⟨_, _, _, _, _, rfl, _⟩ := h; rfl) | (obtain ⟨_, _, _, _, _, _, rfl, _⟩ := h; rfl) | (obtain ⟨_, _, _, _, _, _, _, rfl, _⟩ := h; rfl) | (obtain ⟨_, _, _, _, _, _, _, _, rfl, _⟩ := h; rfl)
theorem okX_Hall_works (T : Txt2 K mg) (TX : TxX K mg) (mt : Meth K (He.ga K "Hall") "works" (He.ma K (He.ga K "Hall") "works")) (D : Df K "works" "Hall.works" s_Hall_works (He.ma K (He.ga K "Hall") "works"))  (X_Hall_must_be_two : MOkX P w K mg base "Hall" "must_be_two" ["self", "one", "other"] 2 (spX_Hall_must_be_two K)) : MOkX P w K mg base "Hall" "works" ["self", "one", "other"] 3 (spX_Hall_works K) := by
  refine ⟨mt, ?fn⟩
  refine fn_byX (t := tX_Hall_works K) D sc_Hall_works lenX_Hall_works (fun _ _ _ _ _ _ us hl => match us, hl with | [_, _, _], _ => rfl) (fun cdv A outer s0 H E hr tk => ?_) (purX_Hall_works T.toTxt.toTxtK)
  exact (pss_cons (ps_expr (pe_mX (pv 0) T.clHall X_Hall_must_be_two (hr.mono (by decide)) tk (pa_cons (pv 1) (pa_cons (pv 2) pa_nil))))
      (pss_one ps_never))
theorem lenX_Hall_receipts {K : PySem.W.Frag} : ∀ vs H Q E, spX_Hall_receipts K vs H Q E → vs.length = 3 := by
  intro vs H Q E h
  first | (obtain ⟨_, rfl, _⟩ := h; rfl) | (obtain ⟨_, _, rfl, _⟩ := h; rfl) | (obtain ⟨_, _, _, rfl, _⟩ := h; rfl) | (obtain ⟨_, _, _, _, rfl, _⟩ := h; rfl) | (obtain ⟨_, _, _, _, _, rfl, _⟩ := h; rfl) | (obtain ⟨_, _, _, _, _, _, rfl, _⟩ := h; rfl) | (obtain ⟨_, _, _, _, _, _, _, rfl, _⟩ := h; rfl) | (obtain ⟨_, _, _, _, _, _, _, _, rfl, _⟩ := h; rfl)
theorem okX_Hall_receipts (T : Txt2 K mg) (TX : TxX K mg) (mt : Meth K (He.ga K "Hall") "receipts" (He.ma K (He.ga K "Hall") "receipts")) (D : Df K "receipts" "Hall.receipts" s_Hall_receipts (He.ma K (He.ga K "Hall") "receipts"))  (X_Hall_must_be_two : MOkX P w K mg base "Hall" "must_be_two" ["self", "one", "other"] 2 (spX_Hall_must_be_two K)) : MOkX P w K mg base "Hall" "receipts" ["self", "one", "other"] 3 (spX_Hall_receipts K) := by
  refine ⟨mt, ?fn⟩
  refine fn_byX (t := tX_Hall_receipts K) D sc_Hall_receipts lenX_Hall_receipts (fun _ _ _ _ _ _ us hl => match us, hl with | [_, _, _], _ => rfl) (fun cdv A outer s0 H E hr tk => ?_) (purX_Hall_receipts T.toTxt.toTxtK)
  exact (pss_cons (ps_expr (pe_mX (pv 0) T.clHall X_Hall_must_be_two (hr.mono (by decide)) tk (pa_cons (pv 1) (pa_cons (pv 2) pa_nil))))
      (pss_one ps_never))
theorem lenX_Hall_weights_on {K : PySem.W.Frag} : ∀ vs H Q E, spX_Hall_weights_on K vs H Q E → vs.length = 3 := by
  intro vs H Q E h
  first | (obtain ⟨_, rfl, _⟩ := h; rfl) | (obtain ⟨_, _, rfl, _⟩ := h; rfl) | (obtain ⟨_, _, _, rfl, _⟩ := h; rfl) | (obtain ⟨_, _, _, _, rfl, _⟩ := h; rfl) | (obtain ⟨_, _, _, _, _, rfl, _⟩ := h; rfl) | (obtain ⟨_, _, _, _, _, _, rfl, _⟩ := h; rfl) | (obtain ⟨_, _, _, _, _, _, _, rfl, _⟩ := h; rfl) | (obtain ⟨_, _, _, _, _, _, _, _, rfl, _⟩ := h; rfl)
theorem okX_Hall_weights_on (T : Txt2 K mg) (TX : TxX K mg) (mt : Meth K (He.ga K "Hall") "weights_on" (He.ma K (He.ga K "Hall") "weights_on")) (D : Df K "weights_on" "Hall.weights_on" s_Hall_weights_on (He.ma K (He.ga K "Hall") "weights_on"))  (X_Hall_must_be_two : MOkX P w K mg base "Hall" "must_be_two" ["self", "one", "other"] 2 (spX_Hall_must_be_two K)) : MOkX P w K mg base "Hall" "weights_on" ["self", "one", "other"] 3 (spX_Hall_weights_on K) := by
  refine ⟨mt, ?fn⟩
  refine fn_byX (t := tX_Hall_weights_on K) D sc_Hall_weights_on lenX_Hall_weights_on (fun _ _ _ _ _ _ us hl => match us, hl with | [_, _, _], _ => rfl) (fun cdv A outer s0 H E hr tk => ?_) (purX_Hall_weights_on T.toTxt.toTxtK)
  exact (pss_cons (ps_expr (pe_mX (pv 0) T.clHall X_Hall_must_be_two (hr.mono (by decide)) tk (pa_cons (pv 1) (pa_cons (pv 2) pa_nil))))
      (pss_one ps_never))
theorem lenX_Hall_open_of {K : PySem.W.Frag} : ∀ vs H Q E, spX_Hall_open_of K vs H Q E → vs.length = 2 := by
  intro vs H Q E h
  first | (obtain ⟨_, rfl, _⟩ := h; rfl) | (obtain ⟨_, _, rfl, _⟩ := h; rfl) | (obtain ⟨_, _, _, rfl, _⟩ := h; rfl) | (obtain ⟨_, _, _, _, rfl, _⟩ := h; rfl) | (obtain ⟨_, _, _, _, _, rfl, _⟩ := h; rfl) | (obtain ⟨_, _, _, _, _, _, rfl, _⟩ := h; rfl) | (obtain ⟨_, _, _, _, _, _, _, rfl, _⟩ := h; rfl) | (obtain ⟨_, _, _, _, _, _, _, _, rfl, _⟩ := h; rfl)
theorem okX_Hall_open_of (T : Txt2 K mg) (TX : TxX K mg) (mt : Meth K (He.ga K "Hall") "open_of" (He.ma K (He.ga K "Hall") "open_of")) (D : Df K "open_of" "Hall.open_of" s_Hall_open_of (He.ma K (He.ga K "Hall") "open_of"))  (X_Hall_must_be : MOkX P w K mg base "Hall" "must_be" ["self", "hand"] 1 (spX_Hall_must_be K)) : MOkX P w K mg base "Hall" "open_of" ["self", "hand"] 2 (spX_Hall_open_of K) := by
  refine ⟨mt, ?fn⟩
  refine fn_byX (t := tX_Hall_open_of K) D sc_Hall_open_of lenX_Hall_open_of (fun _ _ _ _ _ _ us hl => match us, hl with | [_, _], _ => rfl) (fun cdv A outer s0 H E hr tk => ?_) (purX_Hall_open_of T.toTxt.toTxtK)
  exact (pss_cons (ps_expr (pe_mX (pv 0) T.clHall X_Hall_must_be (hr.mono (by decide)) tk (pa_cons (pv 1) pa_nil)))
      (pss_one ps_never))
theorem lenX_Hall_above {K : PySem.W.Frag} : ∀ vs H Q E, spX_Hall_above K vs H Q E → vs.length = 2 := by
  intro vs H Q E h
  first | (obtain ⟨_, rfl, _⟩ := h; rfl) | (obtain ⟨_, _, rfl, _⟩ := h; rfl) | (obtain ⟨_, _, _, rfl, _⟩ := h; rfl) | (obtain ⟨_, _, _, _, rfl, _⟩ := h; rfl) | (obtain ⟨_, _, _, _, _, rfl, _⟩ := h; rfl) | (obtain ⟨_, _, _, _, _, _, rfl, _⟩ := h; rfl) | (obtain ⟨_, _, _, _, _, _, _, rfl, _⟩ := h; rfl) | (obtain ⟨_, _, _, _, _, _, _, _, rfl, _⟩ := h; rfl)
theorem okX_Hall_above (T : Txt2 K mg) (TX : TxX K mg) (mt : Meth K (He.ga K "Hall") "above" (He.ma K (He.ga K "Hall") "above")) (D : Df K "above" "Hall.above" s_Hall_above (He.ma K (He.ga K "Hall") "above"))  (X_Hall_must_be : MOkX P w K mg base "Hall" "must_be" ["self", "hand"] 1 (spX_Hall_must_be K)) : MOkX P w K mg base "Hall" "above" ["self", "hand"] 2 (spX_Hall_above K) := by
  refine ⟨mt, ?fn⟩
  refine fn_byX (t := tX_Hall_above K) D sc_Hall_above lenX_Hall_above (fun _ _ _ _ _ _ us hl => match us, hl with | [_, _], _ => rfl) (fun cdv A outer s0 H E hr tk => ?_) (purX_Hall_above T.toTxt.toTxtK)
  exact (pss_cons (ps_expr (pe_mX (pv 0) T.clHall X_Hall_must_be (hr.mono (by decide)) tk (pa_cons (pv 1) pa_nil)))
      (pss_one ps_never))
theorem lenX_Hall_weight_of {K : PySem.W.Frag} : ∀ vs H Q E, spX_Hall_weight_of K vs H Q E → vs.length = 2 := by
  intro vs H Q E h
  first | (obtain ⟨_, rfl, _⟩ := h; rfl) | (obtain ⟨_, _, rfl, _⟩ := h; rfl) | (obtain ⟨_, _, _, rfl, _⟩ := h; rfl) | (obtain ⟨_, _, _, _, rfl, _⟩ := h; rfl) | (obtain ⟨_, _, _, _, _, rfl, _⟩ := h; rfl) | (obtain ⟨_, _, _, _, _, _, rfl, _⟩ := h; rfl) | (obtain ⟨_, _, _, _, _, _, _, rfl, _⟩ := h; rfl) | (obtain ⟨_, _, _, _, _, _, _, _, rfl, _⟩ := h; rfl)
theorem okX_Hall_weight_of (T : Txt2 K mg) (TX : TxX K mg) (mt : Meth K (He.ga K "Hall") "weight_of" (He.ma K (He.ga K "Hall") "weight_of")) (D : Df K "weight_of" "Hall.weight_of" s_Hall_weight_of (He.ma K (He.ga K "Hall") "weight_of"))  (X_Hall_must_be : MOkX P w K mg base "Hall" "must_be" ["self", "hand"] 1 (spX_Hall_must_be K)) : MOkX P w K mg base "Hall" "weight_of" ["self", "hand"] 2 (spX_Hall_weight_of K) := by
  refine ⟨mt, ?fn⟩
  refine fn_byX (t := tX_Hall_weight_of K) D sc_Hall_weight_of lenX_Hall_weight_of (fun _ _ _ _ _ _ us hl => match us, hl with | [_, _], _ => rfl) (fun cdv A outer s0 H E hr tk => ?_) (purX_Hall_weight_of T.toTxt.toTxtK)
  exact (pss_cons (ps_expr (pe_mX (pv 0) T.clHall X_Hall_must_be (hr.mono (by decide)) tk (pa_cons (pv 1) pa_nil)))
      (pss_one ps_never))
theorem lenX_Hall_weights_home {K : PySem.W.Frag} : ∀ vs H Q E, spX_Hall_weights_home K vs H Q E → vs.length = 2 := by
  intro vs H Q E h
  first | (obtain ⟨_, rfl, _⟩ := h; rfl) | (obtain ⟨_, _, rfl, _⟩ := h; rfl) | (obtain ⟨_, _, _, rfl, _⟩ := h; rfl) | (obtain ⟨_, _, _, _, rfl, _⟩ := h; rfl) | (obtain ⟨_, _, _, _, _, rfl, _⟩ := h; rfl) | (obtain ⟨_, _, _, _, _, _, rfl, _⟩ := h; rfl) | (obtain ⟨_, _, _, _, _, _, _, rfl, _⟩ := h; rfl) | (obtain ⟨_, _, _, _, _, _, _, _, rfl, _⟩ := h; rfl)
theorem okX_Hall_weights_home (T : Txt2 K mg) (TX : TxX K mg) (mt : Meth K (He.ga K "Hall") "weights_home" (He.ma K (He.ga K "Hall") "weights_home")) (D : Df K "weights_home" "Hall.weights_home" s_Hall_weights_home (He.ma K (He.ga K "Hall") "weights_home"))  (X_Hall_must_be : MOkX P w K mg base "Hall" "must_be" ["self", "hand"] 1 (spX_Hall_must_be K)) : MOkX P w K mg base "Hall" "weights_home" ["self", "hand"] 2 (spX_Hall_weights_home K) := by
  refine ⟨mt, ?fn⟩
  refine fn_byX (t := tX_Hall_weights_home K) D sc_Hall_weights_home lenX_Hall_weights_home (fun _ _ _ _ _ _ us hl => match us, hl with | [_, _], _ => rfl) (fun cdv A outer s0 H E hr tk => ?_) (purX_Hall_weights_home T.toTxt.toTxtK)
  exact (pss_cons (ps_expr (pe_mX (pv 0) T.clHall X_Hall_must_be (hr.mono (by decide)) tk (pa_cons (pv 1) pa_nil)))
      (pss_one ps_never))
theorem lenX_Hall_count_of {K : PySem.W.Frag} : ∀ vs H Q E, spX_Hall_count_of K vs H Q E → vs.length = 2 := by
  intro vs H Q E h
  first | (obtain ⟨_, rfl, _⟩ := h; rfl) | (obtain ⟨_, _, rfl, _⟩ := h; rfl) | (obtain ⟨_, _, _, rfl, _⟩ := h; rfl) | (obtain ⟨_, _, _, _, rfl, _⟩ := h; rfl) | (obtain ⟨_, _, _, _, _, rfl, _⟩ := h; rfl) | (obtain ⟨_, _, _, _, _, _, rfl, _⟩ := h; rfl) | (obtain ⟨_, _, _, _, _, _, _, rfl, _⟩ := h; rfl) | (obtain ⟨_, _, _, _, _, _, _, _, rfl, _⟩ := h; rfl)
theorem okX_Hall_count_of (T : Txt2 K mg) (TX : TxX K mg) (mt : Meth K (He.ga K "Hall") "count_of" (He.ma K (He.ga K "Hall") "count_of")) (D : Df K "count_of" "Hall.count_of" s_Hall_count_of (He.ma K (He.ga K "Hall") "count_of"))  (X_Hall_must_be : MOkX P w K mg base "Hall" "must_be" ["self", "hand"] 1 (spX_Hall_must_be K)) : MOkX P w K mg base "Hall" "count_of" ["self", "hand"] 2 (spX_Hall_count_of K) := by
  refine ⟨mt, ?fn⟩
  refine fn_byX (t := tX_Hall_count_of K) D sc_Hall_count_of lenX_Hall_count_of (fun _ _ _ _ _ _ us hl => match us, hl with | [_, _], _ => rfl) (fun cdv A outer s0 H E hr tk => ?_) (purX_Hall_count_of T.toTxt.toTxtK)
  exact (pss_cons (ps_expr (pe_mX (pv 0) T.clHall X_Hall_must_be (hr.mono (by decide)) tk (pa_cons (pv 1) pa_nil)))
      (pss_one ps_never))
theorem lenX_Hall_colour_of {K : PySem.W.Frag} : ∀ vs H Q E, spX_Hall_colour_of K vs H Q E → vs.length = 2 := by
  intro vs H Q E h
  first | (obtain ⟨_, rfl, _⟩ := h; rfl) | (obtain ⟨_, _, rfl, _⟩ := h; rfl) | (obtain ⟨_, _, _, rfl, _⟩ := h; rfl) | (obtain ⟨_, _, _, _, rfl, _⟩ := h; rfl) | (obtain ⟨_, _, _, _, _, rfl, _⟩ := h; rfl) | (obtain ⟨_, _, _, _, _, _, rfl, _⟩ := h; rfl) | (obtain ⟨_, _, _, _, _, _, _, rfl, _⟩ := h; rfl) | (obtain ⟨_, _, _, _, _, _, _, _, rfl, _⟩ := h; rfl)
theorem okX_Hall_colour_of (T : Txt2 K mg) (TX : TxX K mg) (mt : Meth K (He.ga K "Hall") "colour_of" (He.ma K (He.ga K "Hall") "colour_of")) (D : Df K "colour_of" "Hall.colour_of" s_Hall_colour_of (He.ma K (He.ga K "Hall") "colour_of"))  (X_Hall_must_be : MOkX P w K mg base "Hall" "must_be" ["self", "hand"] 1 (spX_Hall_must_be K)) : MOkX P w K mg base "Hall" "colour_of" ["self", "hand"] 2 (spX_Hall_colour_of K) := by
  refine ⟨mt, ?fn⟩
  refine fn_byX (t := tX_Hall_colour_of K) D sc_Hall_colour_of lenX_Hall_colour_of (fun _ _ _ _ _ _ us hl => match us, hl with | [_, _], _ => rfl) (fun cdv A outer s0 H E hr tk => ?_) (purX_Hall_colour_of T.toTxt.toTxtK)
  exact (pss_cons (ps_expr (pe_mX (pv 0) T.clHall X_Hall_must_be (hr.mono (by decide)) tk (pa_cons (pv 1) pa_nil)))
      (pss_one ps_never))
theorem lenX_Hall_send {K : PySem.W.Frag} : ∀ vs H Q E, spX_Hall_send K vs H Q E → vs.length = 3 := by
  intro vs H Q E h
  first | (obtain ⟨_, rfl, _⟩ := h; rfl) | (obtain ⟨_, _, rfl, _⟩ := h; rfl) | (obtain ⟨_, _, _, rfl, _⟩ := h; rfl) | (obtain ⟨_, _, _, _, rfl, _⟩ := h; rfl) | (obtain ⟨_, _, _, _, _, rfl, _⟩ := h; rfl) | (obtain ⟨_, _, _, _, _, _, rfl, _⟩ := h; rfl) | (obtain ⟨_, _, _, _, _, _, _, rfl, _⟩ := h; rfl) | (obtain ⟨_, _, _, _, _, _, _, _, rfl, _⟩ := h; rfl)
theorem okX_Hall_send (T : Txt2 K mg) (TX : TxX K mg) (mt : Meth K (He.ga K "Hall") "send" (He.ma K (He.ga K "Hall") "send")) (D : Df K "send" "Hall.send" s_Hall_send (He.ma K (He.ga K "Hall") "send"))  (X_Hall_must_be_two : MOkX P w K mg base "Hall" "must_be_two" ["self", "one", "other"] 2 (spX_Hall_must_be_two K)) (X_Hall_must : MOkX P w K mg base "Hall" "must" ["self", "holds"] 1 (spX_Hall_must K)) : MOkX P w K mg base "Hall" "send" ["self", "one", "other"] 4 (spX_Hall_send K) := by
  refine ⟨mt, ?fn⟩
  refine fn_byX (t := tX_Hall_send K) D sc_Hall_send lenX_Hall_send (fun _ _ _ _ _ _ us hl => match us, hl with | [_, _, _], _ => rfl) (fun cdv A outer s0 H E hr tk => ?_) (purX_Hall_send T.toTxt.toTxtK)
  exact (pss_cons (ps_expr (pe_mX (pv 0) T.clHall X_Hall_must_be_two (hr.mono (by decide)) tk (pa_cons (pv 1) (pa_cons (pv 2) pa_nil))))
      (pss_cons (ps_expr (pe_mX (pv 0) T.clHall X_Hall_must (hr.mono (by decide)) tk (pa_cons (pe_ix ix_list (pe_fld (pv 0) rfl) (pv 1) (fun _ _ => rfl)) pa_nil)))
      (pss_cons ps_never
      (pss_cons ps_never
      (pss_one ps_never)))))
theorem lenX_Hall_take {K : PySem.W.Frag} : ∀ vs H Q E, spX_Hall_take K vs H Q E → vs.length = 3 := by
  intro vs H Q E h
  first | (obtain ⟨_, rfl, _⟩ := h; rfl) | (obtain ⟨_, _, rfl, _⟩ := h; rfl) | (obtain ⟨_, _, _, rfl, _⟩ := h; rfl) | (obtain ⟨_, _, _, _, rfl, _⟩ := h; rfl) | (obtain ⟨_, _, _, _, _, rfl, _⟩ := h; rfl) | (obtain ⟨_, _, _, _, _, _, rfl, _⟩ := h; rfl) | (obtain ⟨_, _, _, _, _, _, _, rfl, _⟩ := h; rfl) | (obtain ⟨_, _, _, _, _, _, _, _, rfl, _⟩ := h; rfl)
theorem okX_Hall_take (T : Txt2 K mg) (TX : TxX K mg) (mt : Meth K (He.ga K "Hall") "take" (He.ma K (He.ga K "Hall") "take")) (D : Df K "take" "Hall.take" s_Hall_take (He.ma K (He.ga K "Hall") "take")) (G_Hall_row : MOk P w K mg base "Hall" "row" ["self", "one", "other"] 1 (sp_Hall_row K)) (X_Hall_must_be_two : MOkX P w K mg base "Hall" "must_be_two" ["self", "one", "other"] 2 (spX_Hall_must_be_two K)) (X_Hall_must : MOkX P w K mg base "Hall" "must" ["self", "holds"] 1 (spX_Hall_must K)) : MOkX P w K mg base "Hall" "take" ["self", "one", "other"] 4 (spX_Hall_take K) := by
  refine ⟨mt, ?fn⟩
  refine fn_byX (t := tX_Hall_take K) D sc_Hall_take lenX_Hall_take (fun _ _ _ _ _ _ us hl => match us, hl with | [_, _, _], _ => rfl) (fun cdv A outer s0 H E hr tk => ?_) (purX_Hall_take T.toTxt.toTxtK)
  exact (pss_cons (ps_expr (pe_mX (pv 0) T.clHall X_Hall_must_be_two (hr.mono (by decide)) tk (pa_cons (pv 1) (pa_cons (pv 2) pa_nil))))
      (pss_cons (ps_expr (pe_mX (pv 0) T.clHall X_Hall_must (hr.mono (by decide)) tk (pa_cons (pe_cmpR op_gt (pe_callB call_len_seq (by rfl) T.len (by decide +kernel) (pa_cons (pe_m (pv 0) T.clHall G_Hall_row (hr.mono (by decide)) (pa_cons (pv 1) (pa_cons (pv 2) pa_nil))) pa_nil)) pe_int (nomark _)) pa_nil)))
      (pss_cons ps_never
      (pss_cons ps_never
      (pss_cons ps_never
      (pss_cons ps_never
      (pss_one ps_never)))))))
theorem lenX_Hall_rest {K : PySem.W.Frag} : ∀ vs H Q E, spX_Hall_rest K vs H Q E → vs.length = 2 := by
  intro vs H Q E h
  first | (obtain ⟨_, rfl, _⟩ := h; rfl) | (obtain ⟨_, _, rfl, _⟩ := h; rfl) | (obtain ⟨_, _, _, rfl, _⟩ := h; rfl) | (obtain ⟨_, _, _, _, rfl, _⟩ := h; rfl) | (obtain ⟨_, _, _, _, _, rfl, _⟩ := h; rfl) | (obtain ⟨_, _, _, _, _, _, rfl, _⟩ := h; rfl) | (obtain ⟨_, _, _, _, _, _, _, rfl, _⟩ := h; rfl) | (obtain ⟨_, _, _, _, _, _, _, _, rfl, _⟩ := h; rfl)
theorem okX_Hall_rest (T : Txt2 K mg) (TX : TxX K mg) (mt : Meth K (He.ga K "Hall") "rest" (He.ma K (He.ga K "Hall") "rest")) (D : Df K "rest" "Hall.rest" s_Hall_rest (He.ma K (He.ga K "Hall") "rest"))  (X_Hall_must_be : MOkX P w K mg base "Hall" "must_be" ["self", "hand"] 1 (spX_Hall_must_be K)) (X_Hall_must : MOkX P w K mg base "Hall" "must" ["self", "holds"] 1 (spX_Hall_must K)) : MOkX P w K mg base "Hall" "rest" ["self", "hand"] 3 (spX_Hall_rest K) := by
  refine ⟨mt, ?fn⟩
  refine fn_byX (t := tX_Hall_rest K) D sc_Hall_rest lenX_Hall_rest (fun _ _ _ _ _ _ us hl => match us, hl with | [_, _], _ => rfl) (fun cdv A outer s0 H E hr tk => ?_) (purX_Hall_rest T.toTxt.toTxtK)
  exact (pss_cons (ps_expr (pe_mX (pv 0) T.clHall X_Hall_must_be (hr.mono (by decide)) tk (pa_cons (pv 1) pa_nil)))
      (pss_cons (ps_expr (pe_mX (pv 0) T.clHall X_Hall_must (hr.mono (by decide)) tk (pa_cons (pe_ix ix_list (pe_fld (pv 0) rfl) (pv 1) (fun _ _ => rfl)) pa_nil)))
      (pss_cons ps_never
      (pss_cons ps_never
      (pss_one ps_never)))))
theorem lenX_Hall_back {K : PySem.W.Frag} : ∀ vs H Q E, spX_Hall_back K vs H Q E → vs.length = 3 := by
  intro vs H Q E h
  first | (obtain ⟨_, rfl, _⟩ := h; rfl) | (obtain ⟨_, _, rfl, _⟩ := h; rfl) | (obtain ⟨_, _, _, rfl, _⟩ := h; rfl) | (obtain ⟨_, _, _, _, rfl, _⟩ := h; rfl) | (obtain ⟨_, _, _, _, _, rfl, _⟩ := h; rfl) | (obtain ⟨_, _, _, _, _, _, rfl, _⟩ := h; rfl) | (obtain ⟨_, _, _, _, _, _, _, rfl, _⟩ := h; rfl) | (obtain ⟨_, _, _, _, _, _, _, _, rfl, _⟩ := h; rfl)
theorem okX_Hall_back (T : Txt2 K mg) (TX : TxX K mg) (mt : Meth K (He.ga K "Hall") "back" (He.ma K (He.ga K "Hall") "back")) (D : Df K "back" "Hall.back" s_Hall_back (He.ma K (He.ga K "Hall") "back")) (G_Hall_receipts : MOk P w K mg base "Hall" "receipts" ["self", "one", "other"] 3 (sp_Hall_receipts K)) (X_Hall_must_be_two : MOkX P w K mg base "Hall" "must_be_two" ["self", "one", "other"] 2 (spX_Hall_must_be_two K)) (X_Hall_must : MOkX P w K mg base "Hall" "must" ["self", "holds"] 1 (spX_Hall_must K)) : MOkX P w K mg base "Hall" "back" ["self", "one", "other"] 4 (spX_Hall_back K) := by
  refine ⟨mt, ?fn⟩
  refine fn_byX (t := tX_Hall_back K) D sc_Hall_back lenX_Hall_back (fun _ _ _ _ _ _ us hl => match us, hl with | [_, _, _], _ => rfl) (fun cdv A outer s0 H E hr tk => ?_) (purX_Hall_back T.toTxt.toTxtK)
  exact (pss_cons (ps_expr (pe_mX (pv 0) T.clHall X_Hall_must_be_two (hr.mono (by decide)) tk (pa_cons (pv 1) (pa_cons (pv 2) pa_nil))))
      (pss_cons (ps_expr (pe_mX (pv 0) T.clHall X_Hall_must (hr.mono (by decide)) tk (pa_cons (pe_cmpR op_gt (pe_m (pv 0) T.clHall G_Hall_receipts (hr.mono (by decide)) (pa_cons (pv 1) (pa_cons (pv 2) pa_nil))) pe_int (nomark _)) pa_nil)))
      (pss_cons ps_never
      (pss_one ps_never))))
theorem lenX_Hall_home {K : PySem.W.Frag} : ∀ vs H Q E, spX_Hall_home K vs H Q E → vs.length = 2 := by
  intro vs H Q E h
  first | (obtain ⟨_, rfl, _⟩ := h; rfl) | (obtain ⟨_, _, rfl, _⟩ := h; rfl) | (obtain ⟨_, _, _, rfl, _⟩ := h; rfl) | (obtain ⟨_, _, _, _, rfl, _⟩ := h; rfl) | (obtain ⟨_, _, _, _, _, rfl, _⟩ := h; rfl) | (obtain ⟨_, _, _, _, _, _, rfl, _⟩ := h; rfl) | (obtain ⟨_, _, _, _, _, _, _, rfl, _⟩ := h; rfl) | (obtain ⟨_, _, _, _, _, _, _, _, rfl, _⟩ := h; rfl)
theorem okX_Hall_home (T : Txt2 K mg) (TX : TxX K mg) (mt : Meth K (He.ga K "Hall") "home" (He.ma K (He.ga K "Hall") "home")) (D : Df K "home" "Hall.home" s_Hall_home (He.ma K (He.ga K "Hall") "home"))  (X_Hall_must_be : MOkX P w K mg base "Hall" "must_be" ["self", "hand"] 1 (spX_Hall_must_be K)) (X_Hall_must : MOkX P w K mg base "Hall" "must" ["self", "holds"] 1 (spX_Hall_must K)) : MOkX P w K mg base "Hall" "home" ["self", "hand"] 5 (spX_Hall_home K) := by
  refine ⟨mt, ?fn⟩
  refine fn_byX (t := tX_Hall_home K) D sc_Hall_home lenX_Hall_home (fun _ _ _ _ _ _ us hl => match us, hl with | [_, _], _ => rfl) (fun cdv A outer s0 H E hr tk => ?_) (purX_Hall_home T.toTxt.toTxtK)
  exact (pss_cons (ps_expr (pe_mX (pv 0) T.clHall X_Hall_must_be (hr.mono (by decide)) tk (pa_cons (pv 1) pa_nil)))
      (pss_cons (ps_if (pt_cmpR op_eq (pv 1) pe_int (nomark _)) (pss_one (ps_raise rfl tk (pmk_own PySem.F.excBase_ValueError TX.NoHand.xx TX.NoHand.g TX.NoHand.k (raises_own TX.NoHand.b TX.NoHand.t) (by rfl)))) pss_nil)
      (pss_cons (ps_expr (pe_mX (pv 0) T.clHall X_Hall_must (hr.mono (by decide)) tk (pa_cons (pe_cmpR op_gt (pe_callB call_len_seq (by rfl) T.len (by decide +kernel) (pa_cons (pe_ix ix_list (pe_fld (pe_fld (pv 0) rfl) rfl) (pv 1) (fun _ _ => rfl)) pa_nil)) pe_int (nomark _)) pa_nil)))
      (pss_one ps_never))))
theorem lenX_Hall_pass_on {K : PySem.W.Frag} : ∀ vs H Q E, spX_Hall_pass_on K vs H Q E → vs.length = 1 := by
  intro vs H Q E h
  first | (obtain ⟨_, rfl, _⟩ := h; rfl) | (obtain ⟨_, _, rfl, _⟩ := h; rfl) | (obtain ⟨_, _, _, rfl, _⟩ := h; rfl) | (obtain ⟨_, _, _, _, rfl, _⟩ := h; rfl) | (obtain ⟨_, _, _, _, _, rfl, _⟩ := h; rfl) | (obtain ⟨_, _, _, _, _, _, rfl, _⟩ := h; rfl) | (obtain ⟨_, _, _, _, _, _, _, rfl, _⟩ := h; rfl) | (obtain ⟨_, _, _, _, _, _, _, _, rfl, _⟩ := h; rfl)
theorem okX_Hall_pass_on (T : Txt2 K mg) (TX : TxX K mg) (mt : Meth K (He.ga K "Hall") "pass_on" (He.ma K (He.ga K "Hall") "pass_on")) (D : Df K "pass_on" "Hall.pass_on" s_Hall_pass_on (He.ma K (He.ga K "Hall") "pass_on"))  (X_Hall_must : MOkX P w K mg base "Hall" "must" ["self", "holds"] 1 (spX_Hall_must K)) : MOkX P w K mg base "Hall" "pass_on" ["self"] 2 (spX_Hall_pass_on K) := by
  refine ⟨mt, ?fn⟩
  refine fn_byX (t := tX_Hall_pass_on K) D sc_Hall_pass_on lenX_Hall_pass_on (fun _ _ _ _ _ _ us hl => match us, hl with | [_], _ => rfl) (fun cdv A outer s0 H E hr tk => ?_) (purX_Hall_pass_on T.toTxt.toTxtK)
  exact (pss_cons (ps_expr (pe_mX (pv 0) T.clHall X_Hall_must (hr.mono (by decide)) tk (pa_cons (pe_not (pe_ix ix_list (pe_fld (pv 0) rfl) (pe_fld (pe_fld (pv 0) rfl) rfl) (fun _ _ => rfl))) pa_nil)))
      (pss_one ps_never))
theorem sc_l_ask_one : FnScope N_l_ask_one ["_law_hall", "_law_way", "_law_one"] (defScope s_l_ask_one) := ⟨rfl, rfl, rfl, by decide +kernel, rfl, by decide +kernel, by decide +kernel⟩
theorem lenX_l_ask_one {K : PySem.W.Frag} : ∀ vs H Q E, spX_l_ask_one K vs H Q E → vs.length = 3 := by
  intro vs H Q E h
  first | (obtain ⟨_, rfl, _⟩ := h; rfl) | (obtain ⟨_, _, rfl, _⟩ := h; rfl) | (obtain ⟨_, _, _, rfl, _⟩ := h; rfl) | (obtain ⟨_, _, _, _, rfl, _⟩ := h; rfl) | (obtain ⟨_, _, _, _, _, rfl, _⟩ := h; rfl) | (obtain ⟨_, _, _, _, _, _, rfl, _⟩ := h; rfl) | (obtain ⟨_, _, _, _, _, _, _, rfl, _⟩ := h; rfl) | (obtain ⟨_, _, _, _, _, _, _, _, rfl, _⟩ := h; rfl)
theorem okX_l_ask_one (T : Txt2 K mg) (TX : TxX K mg) (gl : mg "_law_ask_one" = some (.ref (He.ga K "_law_ask_one"))) (D : Df K "_law_ask_one" "_law_ask_one" s_l_ask_one (He.ga K "_law_ask_one"))  (X_Hall_rest : MOkX P w K mg base "Hall" "rest" ["self", "hand"] 3 (spX_Hall_rest K)) (X_Hall_home : MOkX P w K mg base "Hall" "home" ["self", "hand"] 5 (spX_Hall_home K)) (X_Hall_open_of : MOkX P w K mg base "Hall" "open_of" ["self", "hand"] 2 (spX_Hall_open_of K)) (X_Hall_above : MOkX P w K mg base "Hall" "above" ["self", "hand"] 2 (spX_Hall_above K)) (X_Hall_weight_of : MOkX P w K mg base "Hall" "weight_of" ["self", "hand"] 2 (spX_Hall_weight_of K)) (X_Hall_weights_home : MOkX P w K mg base "Hall" "weights_home" ["self", "hand"] 2 (spX_Hall_weights_home K)) (X_Hall_count_of : MOkX P w K mg base "Hall" "count_of" ["self", "hand"] 2 (spX_Hall_count_of K)) (X_Hall_colour_of : MOkX P w K mg base "Hall" "colour_of" ["self", "hand"] 2 (spX_Hall_colour_of K)) : FOkX P w K mg base "_law_ask_one" ["_law_hall", "_law_way", "_law_one"] 6 (spX_l_ask_one K) := by
  refine ⟨gl, ?fn, Df.kp D⟩
  refine fn_byX (t := tX_l_ask_one K) D sc_l_ask_one lenX_l_ask_one (fun _ _ _ _ _ _ us hl => match us, hl with | [_, _, _], _ => rfl) (fun cdv A outer s0 H E hr tk => ?_) (purX_l_ask_one T.toTxt.toTxtK)
  exact (pss_cons (ps_if (pt_cmpR op_eq (pv 1) pe_int (nomark _)) (pss_one (ps_ret (pe_mX (pv 0) T.clHall X_Hall_rest (hr.mono (by decide)) tk (pa_cons (pv 2) pa_nil)))) pss_nil)
      (pss_cons (ps_if (pt_cmpR op_eq (pv 1) pe_int (nomark _)) (pss_one (ps_ret (pe_mX (pv 0) T.clHall X_Hall_home (hr.mono (by decide)) tk (pa_cons (pv 2) pa_nil)))) pss_nil)
      (pss_cons (ps_if (pt_cmpR op_eq (pv 1) pe_int (nomark _)) (pss_one (ps_ret (pe_mX (pv 0) T.clHall X_Hall_open_of (hr.mono (by decide)) tk (pa_cons (pv 2) pa_nil)))) pss_nil)
      (pss_cons (ps_if (pt_cmpR op_eq (pv 1) pe_int (nomark _)) (pss_one (ps_ret (pe_mX (pv 0) T.clHall X_Hall_above (hr.mono (by decide)) tk (pa_cons (pv 2) pa_nil)))) pss_nil)
      (pss_cons (ps_if (pt_cmpR op_eq (pv 1) pe_int (nomark _)) (pss_one (ps_ret (pe_mX (pv 0) T.clHall X_Hall_weight_of (hr.mono (by decide)) tk (pa_cons (pv 2) pa_nil)))) pss_nil)
      (pss_cons (ps_if (pt_cmpR op_eq (pv 1) pe_int (nomark _)) (pss_one (ps_ret (pe_mX (pv 0) T.clHall X_Hall_weights_home (hr.mono (by decide)) tk (pa_cons (pv 2) pa_nil)))) pss_nil)
      (pss_cons (ps_if (pt_cmpR op_eq (pv 1) pe_int (nomark _)) (pss_one (ps_ret (pe_mX (pv 0) T.clHall X_Hall_count_of (hr.mono (by decide)) tk (pa_cons (pv 2) pa_nil)))) pss_nil)
      (pss_one (ps_ret (pe_mX (pv 0) T.clHall X_Hall_colour_of (hr.mono (by decide)) tk (pa_cons (pv 2) pa_nil)))))))))))
theorem sc_l_ask : FnScope N_l_ask ["_law_hall", "_law_way", "_law_one", "_law_other"] (defScope s_l_ask) := ⟨rfl, rfl, rfl, by decide +kernel, rfl, by decide +kernel, by decide +kernel⟩
theorem lenX_l_ask {K : PySem.W.Frag} : ∀ vs H Q E, spX_l_ask K vs H Q E → vs.length = 4 := by
  intro vs H Q E h
  first | (obtain ⟨_, rfl, _⟩ := h; rfl) | (obtain ⟨_, _, rfl, _⟩ := h; rfl) | (obtain ⟨_, _, _, rfl, _⟩ := h; rfl) | (obtain ⟨_, _, _, _, rfl, _⟩ := h; rfl) | (obtain ⟨_, _, _, _, _, rfl, _⟩ := h; rfl) | (obtain ⟨_, _, _, _, _, _, rfl, _⟩ := h; rfl) | (obtain ⟨_, _, _, _, _, _, _, rfl, _⟩ := h; rfl) | (obtain ⟨_, _, _, _, _, _, _, _, rfl, _⟩ := h; rfl)
theorem okX_l_ask (T : Txt2 K mg) (TX : TxX K mg) (gl : mg "_law_ask" = some (.ref (He.ga K "_law_ask"))) (D : Df K "_law_ask" "_law_ask" s_l_ask (He.ga K "_law_ask"))  (X_Hall_send : MOkX P w K mg base "Hall" "send" ["self", "one", "other"] 4 (spX_Hall_send K)) (X_Hall_take : MOkX P w K mg base "Hall" "take" ["self", "one", "other"] 4 (spX_Hall_take K)) (X_Hall_back : MOkX P w K mg base "Hall" "back" ["self", "one", "other"] 4 (spX_Hall_back K)) (X_Hall_works : MOkX P w K mg base "Hall" "works" ["self", "one", "other"] 3 (spX_Hall_works K)) (X_Hall_receipts : MOkX P w K mg base "Hall" "receipts" ["self", "one", "other"] 3 (spX_Hall_receipts K)) (X_Hall_weights_on : MOkX P w K mg base "Hall" "weights_on" ["self", "one", "other"] 3 (spX_Hall_weights_on K)) (X_l_ask_one : FOkX P w K mg base "_law_ask_one" ["_law_hall", "_law_way", "_law_one"] 6 (spX_l_ask_one K)) : FOkX P w K mg base "_law_ask" ["_law_hall", "_law_way", "_law_one", "_law_other"] 7 (spX_l_ask K) := by
  refine ⟨gl, ?fn, Df.kp D⟩
  refine fn_byX (t := tX_l_ask K) D sc_l_ask lenX_l_ask (fun _ _ _ _ _ _ us hl => match us, hl with | [_, _, _, _], _ => rfl) (fun cdv A outer s0 H E hr tk => ?_) (purX_l_ask T.toTxt.toTxtK)
  exact (pss_cons (ps_if (pt_cmpR op_eq (pv 1) pe_int (nomark _)) (pss_one (ps_ret (pe_mX (pv 0) T.clHall X_Hall_send (hr.mono (by decide)) tk (pa_cons (pv 2) (pa_cons (pv 3) pa_nil))))) pss_nil)
      (pss_cons (ps_if (pt_cmpR op_eq (pv 1) pe_int (nomark _)) (pss_one (ps_ret (pe_mX (pv 0) T.clHall X_Hall_take (hr.mono (by decide)) tk (pa_cons (pv 2) (pa_cons (pv 3) pa_nil))))) pss_nil)
      (pss_cons (ps_if (pt_cmpR op_eq (pv 1) pe_int (nomark _)) (pss_one (ps_ret (pe_mX (pv 0) T.clHall X_Hall_back (hr.mono (by decide)) tk (pa_cons (pv 2) (pa_cons (pv 3) pa_nil))))) pss_nil)
      (pss_cons (ps_if (pt_cmpR op_eq (pv 1) pe_int (nomark _)) (pss_one (ps_ret (pe_mX (pv 0) T.clHall X_Hall_works (hr.mono (by decide)) tk (pa_cons (pv 2) (pa_cons (pv 3) pa_nil))))) pss_nil)
      (pss_cons (ps_if (pt_cmpR op_eq (pv 1) pe_int (nomark _)) (pss_one (ps_ret (pe_mX (pv 0) T.clHall X_Hall_receipts (hr.mono (by decide)) tk (pa_cons (pv 2) (pa_cons (pv 3) pa_nil))))) pss_nil)
      (pss_cons (ps_if (pt_cmpR op_eq (pv 1) pe_int (nomark _)) (pss_one (ps_ret (pe_mX (pv 0) T.clHall X_Hall_weights_on (hr.mono (by decide)) tk (pa_cons (pv 2) (pa_cons (pv 3) pa_nil))))) pss_nil)
      (pss_one (ps_ret (pe_fX X_l_ask_one (hr.mono (by decide)) tk (by rfl) (pa_cons (pv 0) (pa_cons (pv 1) (pa_cons (pv 2) pa_nil))))))))))))
theorem sc_l_said : FnScope N_l_said ["_law_hall", "_law_way", "_law_one", "_law_other"] (defScope s_l_said) := ⟨rfl, rfl, rfl, by decide +kernel, rfl, by decide +kernel, by decide +kernel⟩
theorem len_l_said {K : PySem.W.Frag} : ∀ vs H Q E, sp_l_said K vs H Q E → vs.length = 4 := by
  intro vs H Q E h
  first | (obtain ⟨_, rfl, _⟩ := h; rfl) | (obtain ⟨_, _, rfl, _⟩ := h; rfl) | (obtain ⟨_, _, _, rfl, _⟩ := h; rfl) | (obtain ⟨_, _, _, _, rfl, _⟩ := h; rfl) | (obtain ⟨_, _, _, _, _, rfl, _⟩ := h; rfl) | (obtain ⟨_, _, _, _, _, _, rfl, _⟩ := h; rfl) | (obtain ⟨_, _, _, _, _, _, _, rfl, _⟩ := h; rfl) | (obtain ⟨_, _, _, _, _, _, _, _, rfl, _⟩ := h; rfl)
theorem ok_l_said (T : Txt2 K mg) (TX : TxX K mg) (gl : mg "_law_said" = some (.ref (He.ga K "_law_said"))) (D : Df K "_law_said" "_law_said" s_l_said (He.ga K "_law_said")) (X_Hall_pass_on : MOkX P w K mg base "Hall" "pass_on" ["self"] 2 (spX_Hall_pass_on K)) (X_l_ask : FOkX P w K mg base "_law_ask" ["_law_hall", "_law_way", "_law_one", "_law_other"] 7 (spX_l_ask K)) : FOk P w K mg base "_law_said" ["_law_hall", "_law_way", "_law_one", "_law_other"] 8 (sp_l_said K) := by
  refine ⟨gl, ?fn, Df.kp D⟩
  refine fn_by (t := t_l_said K) D sc_l_said len_l_said (fun _ _ _ _ _ _ us hl => match us, hl with | [_, _, _, _], _ => rfl) (fun cdv A outer s0 H E hr => ?_) (pur_l_said T.toTxt.toTxtK TX)
  refine pss_cons (ps_set (i := 4) sc_l_said.nd rfl (by first | exact Or.inl rfl | exact Or.inr rfl) pe_str) (pss_cons (ps_try_as (i := 5) (tb := tbSaid K) (ts := tsSaid K) (Wout := fun _ _ _ _ => False) (c := .ref (He.ga K "HallError")) rfl rfl sc_l_said.nd rfl rfl ⟨by rfl, by decide, .inl TX.he⟩ takes0
    (fun W pn xe tk _ => pss_one (ps_if (pt_cmpR op_eq (pv 1) pe_int (nomark _)) (pss_one (ps_expr (pe_mW0 (pv 0) T.clHall X_Hall_pass_on (hr.mono (by decide)) tk))) (pss_one (ps_expr (pe_fW X_l_ask (hr.mono (by decide)) tk (by rfl) (pa_cons (pv 0) (pa_cons (pv 1) (pa_cons (pv 2) (pa_cons (pv 3) pa_nil)))))))))
    (fun a oe cls d pn hz hf => ?suite)) (pss_one (ps_ret (pv 4))))
  constructor
  rintro pins s σ H D I ⟨nh, ⟨rfl, rfl⟩, h⟩
  refine (?der : PSs _ _ (tSuite K nh a)).run pins s σ H D I h
  exact (pss_cons (ps_set (i := 4) sc_l_said.nd rfl (by first | exact Or.inl rfl | exact Or.inr rfl) pe_str)
      (pss_one (ps_if (PW.pt (pw_and (pt_val (pe_callB (call_isE (TX.of nh).c hz hf) (by rfl) T.isinstance (by decide +kernel) (pa_cons (pv 5) (pa_cons (pe_bltn (u := .type "ValueError") (by rfl) TX.v (by decide +kernel) rfl) pa_nil)))) (pw_and1 (pt_cmpR op_ne (pe_callB (call_isE (TX.of nh).c hz hf) (by rfl) T.isinstance (by decide +kernel) (pa_cons (pv 5) (pa_cons (pe_glob (u := .ref (He.ga K "NoHand")) (by rfl) TX.NoHand.g rfl) pa_nil))) (pe_callB (call_isE (TX.of nh).c hz hf) (by rfl) T.isinstance (by decide +kernel) (pa_cons (pv 5) (pa_cons (pe_glob (u := .ref (He.ga K "NotNow")) (by rfl) TX.NotNow.g rfl) pa_nil))) (nomark _)))))
        (pss_one (ps_set (i := 4) sc_l_said.nd rfl (by first | exact Or.inl rfl | exact Or.inr rfl) (pe_ix ix_list (pe_lst (pa_cons pe_str (pa_cons pe_str pa_nil))) (pe_callTy call_int1 (by rfl) T.int (by decide +kernel) (pa_cons (pe_callB (call_isE (TX.of nh).c hz hf) (by rfl) T.isinstance (by decide +kernel) (pa_cons (pv 5) (pa_cons (pe_glob (u := .ref (He.ga K "NoHand")) (by rfl) TX.NoHand.g rfl) pa_nil))) pa_nil)) (fun _ _ => rfl)))) pss_nil)))
theorem sc_law : FnScope N_law ["_law_script"] (defScope s_law) := ⟨rfl, rfl, rfl, by decide +kernel, rfl, by decide +kernel, by decide +kernel⟩
theorem ok_law (T : Txt2 K mg) {f : Addr} {fd : FuncData} (F : FunD K "law" "law" (defArgs s_law) (defBody s_law) (defScope s_law) [] [] f fd) (G_l_many : FOk P w K mg base "_law_many" ["_law_script"] 2 (sp_l_many K)) (G_Hall_init : IOk P w K mg base "Hall" ["self", "many"] 3 (sp_Hall_init K)) (G_l_play : FOk P w K mg base "_law_play" ["_law_hall", "_law_many_here", "_law_cells"] 7 (sp_l_play K)) (G_l_shown : FOk P w K mg base "_law_shown" ["_law_hall", "_law_many_here"] 4 (sp_l_shown K)) (G_l_cell : FOk P w K mg base "_law_cell" ["_law_script", "_law_k"] 1 (sp_l_cell K)) (G_l_said : FOk P w K mg base "_law_said" ["_law_hall", "_law_way", "_law_one", "_law_other"] 8 (sp_l_said K)) (G_l_roads : FOk P w K mg base "_law_roads" ["_law_many_here"] 1 (sp_l_roads K)) (G_l_can : FOk P w K mg base "_law_can" ["_law_hall", "_law_way", "_law_one", "_law_other"] 4 (sp_l_can K)) (G_Hall_token : MOk P w K mg base "Hall" "token" ["self"] 1 (sp_Hall_token K)) (G_Hall_working : MOk P w K mg base "Hall" "working" ["self"] 1 (sp_Hall_working K)) : FnOk P w K mg base CX0 9 f fd ["_law_script"] (sp_law K) := by
  refine F.ok sc_law len_law (fun cdv A outer s0 H vs Q E hr h => ⟨t_law K, PSs.nox ?_, pur_law T.toTxt.toTxtK vs H Q E h⟩)
  exact (pss_cons (ps_set (i := 1) sc_law.nd rfl (by first | exact Or.inl rfl | exact Or.inr rfl) (pe_f G_l_many (hr.mono (by decide)) (by rfl) (pa_cons (pv 0) pa_nil)))
      (pss_cons (ps_set (i := 2) sc_law.nd rfl (by first | exact Or.inl rfl | exact Or.inr rfl) (pe_mk T.mkHall G_Hall_init (hr.mono (by decide)) (by rfl) T.gHall (pa_cons (pv 1) pa_nil)))
      (pss_cons (ps_expr (pe_f G_l_play (hr.mono (by decide)) (by rfl) (pa_cons (pv 2) (pa_cons (pv 1) (pa_cons (pe_slice sl_list (pv 0) (po_some pe_int) (po_some pe_int)) pa_nil)))))
      (pss_cons (ps_set (i := 3) sc_law.nd rfl (by first | exact Or.inl rfl | exact Or.inr rfl) (pe_f G_l_shown (hr.mono (by decide)) (by rfl) (pa_cons (pv 2) (pa_cons (pv 1) pa_nil))))
      (pss_cons (ps_set (i := 4) sc_law.nd rfl (by first | exact Or.inl rfl | exact Or.inr rfl) (pe_op op_mod (pe_f G_l_cell (hr.mono (by decide)) (by rfl) (pa_cons (pv 0) (pa_cons pe_int pa_nil))) (pe_op op_pow pe_int pe_int)))
      (pss_cons (ps_for PassesOwn.never rfl (pi_list (pe_lst (pa_cons (pe_un un_neg pe_int) (pa_cons (pv 1) (pa_cons (pe_op op_add (pv 1) (pv 4)) (pa_cons (pe_op op_sub (pe_un un_neg pe_int) (pv 4)) pa_nil)))))) (pg_name (i := 5) sc_law.nd rfl (by first | exact Or.inl rfl | exact Or.inr rfl)) (pss_one (ps_for PassesOwn.never rfl (pi_range1 rfl T.range (pa_cons pe_int pa_nil)) (pg_name (i := 6) sc_law.nd rfl (by first | exact Or.inl rfl | exact Or.inr rfl)) (pss_cons (ps_if (pt_cmpR op_ne (pe_f G_l_said (hr.mono (by decide)) (by rfl) (pa_cons (pv 2) (pa_cons (pv 6) (pa_cons (pv 5) (pa_cons pe_int pa_nil))))) pe_str (nomark _)) (pss_one (ps_ret pe_bl)) pss_nil)
      (pss_cons (ps_if (PW.pt (pw_and (pt_cmpR op_lt (pv 6) pe_int (nomark _)) (pw_and1 (pt_cmpR op_ne (pe_f G_l_said (hr.mono (by decide)) (by rfl) (pa_cons (pv 2) (pa_cons (pv 6) (pa_cons pe_int (pa_cons (pv 5) pa_nil))))) pe_str (nomark _))))) (pss_one (ps_ret pe_bl)) pss_nil)
      (pss_one (ps_if (PW.pt (pw_and (pt_cmpR op_lt (pv 6) pe_int (nomark _)) (pw_and1 (pt_cmpR op_ne (pe_f G_l_said (hr.mono (by decide)) (by rfl) (pa_cons (pv 2) (pa_cons (pv 6) (pa_cons pe_int (pa_cons pe_int pa_nil))))) pe_str (nomark _))))) (pss_one (ps_ret pe_bl)) pss_nil)))))))
      (pss_cons (ps_if (pt_cmpR op_ne (pe_f G_l_said (hr.mono (by decide)) (by rfl) (pa_cons (pv 2) (pa_cons pe_int (pa_cons pe_int (pa_cons pe_int pa_nil))))) pe_str (nomark _)) (pss_one (ps_ret pe_bl)) pss_nil)
      (pss_cons (ps_for PassesOwn.never rfl (pi_list (pe_f G_l_roads (hr.mono (by decide)) (by rfl) (pa_cons (pv 1) pa_nil))) (pg_tup rfl (pgs_cons (pg_name (i := 7) sc_law.nd rfl (by first | exact Or.inl rfl | exact Or.inr rfl)) (pgs_cons (pg_name (i := 8) sc_law.nd rfl (by first | exact Or.inl rfl | exact Or.inr rfl)) pgs_nil))) (pss_one (ps_for PassesOwn.never rfl (pi_list (pe_lst (pa_cons pe_int (pa_cons pe_int (pa_cons pe_int (pa_cons pe_int (pa_cons pe_int pa_nil))))))) (pg_name (i := 6) sc_law.nd rfl (by first | exact Or.inl rfl | exact Or.inr rfl)) (pss_one (ps_if (PW.pt (pw_and (PW.pt (pw_or (pt_cmpR op_lt (pv 6) pe_int (nomark _)) (pw_or1 (pt_cmpR op_gt (pv 7) pe_int (nomark _))))) (pw_and1 (pt_not (pt_val (pe_f G_l_can (hr.mono (by decide)) (by rfl) (pa_cons (pv 2) (pa_cons (pv 6) (pa_cons (pv 7) (pa_cons (pv 8) pa_nil)))))))))) (pss_one (ps_if (pt_cmpR op_ne (pe_f G_l_said (hr.mono (by decide)) (by rfl) (pa_cons (pv 2) (pa_cons (pv 6) (pa_cons (pv 7) (pa_cons (pv 8) pa_nil))))) pe_str (nomark _)) (pss_one (ps_ret pe_bl)) pss_nil)) pss_nil)))))
      (pss_cons (ps_if (PW.pt (pw_and (pt_cmpR op_in_seq (pe_ix ix_tup (pe_m0 (pv 2) T.clHall G_Hall_token (hr.mono (by decide))) pe_int (fun _ _ => rfl)) (pe_m0 (pv 2) T.clHall G_Hall_working (hr.mono (by decide))) (by with_unfolding_all rfl)) (pw_and1 (pt_cmpR op_ne (pe_f G_l_said (hr.mono (by decide)) (by rfl) (pa_cons (pv 2) (pa_cons pe_int (pa_cons pe_int (pa_cons pe_int pa_nil))))) pe_str (nomark _))))) (pss_one (ps_ret pe_bl)) pss_nil)
      (pss_one (ps_ret (pe_cmpR (op_eqD hr.units) (pe_f G_l_shown (hr.mono (by decide)) (by rfl) (pa_cons (pv 2) (pa_cons (pv 1) pa_nil))) (pv 3) (nomark _)))))))))))))
end
def d_Ring_init : He.DefD := ⟨("Ring", some "__init__"), "__init__", "Ring.__init__", defArgs s_Ring_init, defBody s_Ring_init, defScope s_Ring_init, [], []⟩
def d_Ring_sent : He.DefD := ⟨("Ring", some "sent"), "sent", "Ring.sent", defArgs s_Ring_sent, defBody s_Ring_sent, defScope s_Ring_sent, [], []⟩
def d_Ring_taken : He.DefD := ⟨("Ring", some "taken"), "taken", "Ring.taken", defArgs s_Ring_taken, defBody s_Ring_taken, defScope s_Ring_taken, [], []⟩
def d_Ring_passed : He.DefD := ⟨("Ring", some "passed"), "passed", "Ring.passed", defArgs s_Ring_passed, defBody s_Ring_passed, defScope s_Ring_passed, [], []⟩
def d_Tree_init : He.DefD := ⟨("Tree", some "__init__"), "__init__", "Tree.__init__", defArgs s_Tree_init, defBody s_Tree_init, defScope s_Tree_init, [], []⟩
def d_Tree_is_in : He.DefD := ⟨("Tree", some "is_in"), "is_in", "Tree.is_in", defArgs s_Tree_is_in, defBody s_Tree_is_in, defScope s_Tree_is_in, [], []⟩
def d_Tree_slip : He.DefD := ⟨("Tree", some "slip"), "slip", "Tree.slip", defArgs s_Tree_slip, defBody s_Tree_slip, defScope s_Tree_slip, [], []⟩
def d_Tree_sent : He.DefD := ⟨("Tree", some "sent"), "sent", "Tree.sent", defArgs s_Tree_sent, defBody s_Tree_sent, defScope s_Tree_sent, [], []⟩
def d_Tree_taken : He.DefD := ⟨("Tree", some "taken"), "taken", "Tree.taken", defArgs s_Tree_taken, defBody s_Tree_taken, defScope s_Tree_taken, [], []⟩
def d_Tree_settle : He.DefD := ⟨("Tree", some "settle"), "settle", "Tree.settle", defArgs s_Tree_settle, defBody s_Tree_settle, defScope s_Tree_settle, [], []⟩
def d_Tree_came_back : He.DefD := ⟨("Tree", some "came_back"), "came_back", "Tree.came_back", defArgs s_Tree_came_back, defBody s_Tree_came_back, defScope s_Tree_came_back, [], []⟩
def d_normal : He.DefD := ⟨("normal", none), "normal", "normal", defArgs s_normal, defBody s_normal, defScope s_normal, [], []⟩
def d_half : He.DefD := ⟨("half", none), "half", "half", defArgs s_half, defBody s_half, defScope s_half, [], []⟩
def d_plus : He.DefD := ⟨("plus", none), "plus", "plus", defArgs s_plus, defBody s_plus, defScope s_plus, [], []⟩
def d_Weights_init : He.DefD := ⟨("Weights", some "__init__"), "__init__", "Weights.__init__", defArgs s_Weights_init, defBody s_Weights_init, defScope s_Weights_init, [], []⟩
def d_Weights_split : He.DefD := ⟨("Weights", some "split"), "split", "Weights.split", defArgs s_Weights_split, defBody s_Weights_split, defScope s_Weights_split, [], []⟩
def d_Weights_add : He.DefD := ⟨("Weights", some "add"), "add", "Weights.add", defArgs s_Weights_add, defBody s_Weights_add, defScope s_Weights_add, [], []⟩
def d_Weights_rested : He.DefD := ⟨("Weights", some "rested"), "rested", "Weights.rested", defArgs s_Weights_rested, defBody s_Weights_rested, defScope s_Weights_rested, [], []⟩
def d_Weights_came_home : He.DefD := ⟨("Weights", some "came_home"), "came_home", "Weights.came_home", defArgs s_Weights_came_home, defBody s_Weights_came_home, defScope s_Weights_came_home, [], []⟩
def d_Hall_init : He.DefD := ⟨("Hall", some "__init__"), "__init__", "Hall.__init__", defArgs s_Hall_init, defBody s_Hall_init, defScope s_Hall_init, [], []⟩
def d_Hall_must_be : He.DefD := ⟨("Hall", some "must_be"), "must_be", "Hall.must_be", defArgs s_Hall_must_be, defBody s_Hall_must_be, defScope s_Hall_must_be, [], []⟩
def d_Hall_must_be_two : He.DefD := ⟨("Hall", some "must_be_two"), "must_be_two", "Hall.must_be_two", defArgs s_Hall_must_be_two, defBody s_Hall_must_be_two, defScope s_Hall_must_be_two, [], []⟩
def d_Hall_must : He.DefD := ⟨("Hall", some "must"), "must", "Hall.must", defArgs s_Hall_must, defBody s_Hall_must, defScope s_Hall_must, [], []⟩
def d_Hall_row : He.DefD := ⟨("Hall", some "row"), "row", "Hall.row", defArgs s_Hall_row, defBody s_Hall_row, defScope s_Hall_row, [], []⟩
def d_Hall_send : He.DefD := ⟨("Hall", some "send"), "send", "Hall.send", defArgs s_Hall_send, defBody s_Hall_send, defScope s_Hall_send, [], []⟩
def d_Hall_take : He.DefD := ⟨("Hall", some "take"), "take", "Hall.take", defArgs s_Hall_take, defBody s_Hall_take, defScope s_Hall_take, [], []⟩
def d_Hall_rest : He.DefD := ⟨("Hall", some "rest"), "rest", "Hall.rest", defArgs s_Hall_rest, defBody s_Hall_rest, defScope s_Hall_rest, [], []⟩
def d_Hall_back : He.DefD := ⟨("Hall", some "back"), "back", "Hall.back", defArgs s_Hall_back, defBody s_Hall_back, defScope s_Hall_back, [], []⟩
def d_Hall_home : He.DefD := ⟨("Hall", some "home"), "home", "Hall.home", defArgs s_Hall_home, defBody s_Hall_home, defScope s_Hall_home, [], []⟩
def d_Hall_pass_on : He.DefD := ⟨("Hall", some "pass_on"), "pass_on", "Hall.pass_on", defArgs s_Hall_pass_on, defBody s_Hall_pass_on, defScope s_Hall_pass_on, [], []⟩
def d_Hall_working : He.DefD := ⟨("Hall", some "working"), "working", "Hall.working", defArgs s_Hall_working, defBody s_Hall_working, defScope s_Hall_working, [], []⟩
def d_Hall_works : He.DefD := ⟨("Hall", some "works"), "works", "Hall.works", defArgs s_Hall_works, defBody s_Hall_works, defScope s_Hall_works, [], []⟩
def d_Hall_is_quiet : He.DefD := ⟨("Hall", some "is_quiet"), "is_quiet", "Hall.is_quiet", defArgs s_Hall_is_quiet, defBody s_Hall_is_quiet, defScope s_Hall_is_quiet, [], []⟩
def d_Hall_open_of : He.DefD := ⟨("Hall", some "open_of"), "open_of", "Hall.open_of", defArgs s_Hall_open_of, defBody s_Hall_open_of, defScope s_Hall_open_of, [], []⟩
def d_Hall_above : He.DefD := ⟨("Hall", some "above"), "above", "Hall.above", defArgs s_Hall_above, defBody s_Hall_above, defScope s_Hall_above, [], []⟩
def d_Hall_receipts : He.DefD := ⟨("Hall", some "receipts"), "receipts", "Hall.receipts", defArgs s_Hall_receipts, defBody s_Hall_receipts, defScope s_Hall_receipts, [], []⟩
def d_Hall_weight_of : He.DefD := ⟨("Hall", some "weight_of"), "weight_of", "Hall.weight_of", defArgs s_Hall_weight_of, defBody s_Hall_weight_of, defScope s_Hall_weight_of, [], []⟩
def d_Hall_weights_on : He.DefD := ⟨("Hall", some "weights_on"), "weights_on", "Hall.weights_on", defArgs s_Hall_weights_on, defBody s_Hall_weights_on, defScope s_Hall_weights_on, [], []⟩
def d_Hall_weights_home : He.DefD := ⟨("Hall", some "weights_home"), "weights_home", "Hall.weights_home", defArgs s_Hall_weights_home, defBody s_Hall_weights_home, defScope s_Hall_weights_home, [], []⟩
def d_Hall_token : He.DefD := ⟨("Hall", some "token"), "token", "Hall.token", defArgs s_Hall_token, defBody s_Hall_token, defScope s_Hall_token, [], []⟩
def d_Hall_count_of : He.DefD := ⟨("Hall", some "count_of"), "count_of", "Hall.count_of", defArgs s_Hall_count_of, defBody s_Hall_count_of, defScope s_Hall_count_of, [], []⟩
def d_Hall_colour_of : He.DefD := ⟨("Hall", some "colour_of"), "colour_of", "Hall.colour_of", defArgs s_Hall_colour_of, defBody s_Hall_colour_of, defScope s_Hall_colour_of, [], []⟩
def d_Hall_told : He.DefD := ⟨("Hall", some "told"), "told", "Hall.told", defArgs s_Hall_told, defBody s_Hall_told, defScope s_Hall_told, [], []⟩
def d_l_cell : He.DefD := ⟨("_law_cell", none), "_law_cell", "_law_cell", defArgs s_l_cell, defBody s_l_cell, defScope s_l_cell, [], []⟩
def d_l_mix : He.DefD := ⟨("_law_mix", none), "_law_mix", "_law_mix", defArgs s_l_mix, defBody s_l_mix, defScope s_l_mix, [], []⟩
def d_l_many : He.DefD := ⟨("_law_many", none), "_law_many", "_law_many", defArgs s_l_many, defBody s_l_many, defScope s_l_many, [], []⟩
def d_l_roads : He.DefD := ⟨("_law_roads", none), "_law_roads", "_law_roads", defArgs s_l_roads, defBody s_l_roads, defScope s_l_roads, [], []⟩
def d_l_choices : He.DefD := ⟨("_law_choices", none), "_law_choices", "_law_choices", defArgs s_l_choices, defBody s_l_choices, defScope s_l_choices, [], []⟩
def d_l_act : He.DefD := ⟨("_law_act", none), "_law_act", "_law_act", defArgs s_l_act, defBody s_l_act, defScope s_l_act, [], []⟩
def d_l_do : He.DefD := ⟨("_law_do", none), "_law_do", "_law_do", defArgs s_l_do, defBody s_l_do, defScope s_l_do, [], []⟩
def d_l_play : He.DefD := ⟨("_law_play", none), "_law_play", "_law_play", defArgs s_l_play, defBody s_l_play, defScope s_l_play, [], []⟩
def d_l_shown : He.DefD := ⟨("_law_shown", none), "_law_shown", "_law_shown", defArgs s_l_shown, defBody s_l_shown, defScope s_l_shown, [], []⟩
def d_l_ask : He.DefD := ⟨("_law_ask", none), "_law_ask", "_law_ask", defArgs s_l_ask, defBody s_l_ask, defScope s_l_ask, [], []⟩
def d_l_ask_one : He.DefD := ⟨("_law_ask_one", none), "_law_ask_one", "_law_ask_one", defArgs s_l_ask_one, defBody s_l_ask_one, defScope s_l_ask_one, [], []⟩
def d_l_said : He.DefD := ⟨("_law_said", none), "_law_said", "_law_said", defArgs s_l_said, defBody s_l_said, defScope s_l_said, [], []⟩
def d_l_can : He.DefD := ⟨("_law_can", none), "_law_can", "_law_can", defArgs s_l_can, defBody s_l_can, defScope s_l_can, [], []⟩
def d_law : He.DefD := ⟨("law", none), "law", "law", defArgs s_law, defBody s_law, defScope s_law, [], []⟩
def fn0 : List He.DefD := [d_Ring_init, d_Ring_sent, d_Ring_taken, d_Ring_passed, d_Tree_init, d_Tree_is_in, d_Tree_slip, d_Tree_sent, d_Tree_taken, d_Tree_settle, d_Tree_came_back, d_normal, d_half, d_plus, d_Weights_init, d_Weights_split, d_Weights_add, d_Weights_rested, d_Weights_came_home, d_Hall_init, d_Hall_must_be, d_Hall_must_be_two, d_Hall_must, d_Hall_row, d_Hall_send, d_Hall_take, d_Hall_rest, d_Hall_back, d_Hall_home, d_Hall_pass_on, d_Hall_working, d_Hall_works, d_Hall_is_quiet, d_Hall_open_of, d_Hall_above, d_Hall_receipts, d_Hall_weight_of, d_Hall_weights_on]
def fn1 : List He.DefD := [d_Hall_weights_home, d_Hall_token, d_Hall_count_of, d_Hall_colour_of, d_Hall_told, d_l_cell, d_l_mix, d_l_many, d_l_roads, d_l_choices, d_l_act, d_l_do, d_l_play, d_l_shown, d_l_ask, d_l_ask_one, d_l_said, d_l_can, d_law]
def fn : List He.DefD := fn0 ++ fn1
def fa0 : List He.Fa := [.glo "Ring", .cls "Ring", .mkr "Ring", .noat "Ring" "many", .noat "Ring" "counts", .noat "Ring" "colours", .noat "Ring" "place", .noat "Ring" "sum", .noat "Ring" "colour", .noat "Ring" "begun", .noat "Ring" "found", .meth "Ring" "sent", .meth "Ring" "taken", .meth "Ring" "passed", .glo "Tree", .cls "Tree", .mkr "Tree", .noat "Tree" "due", .noat "Tree" "over", .noat "Tree" "slips", .meth "Tree" "is_in", .meth "Tree" "slip", .meth "Tree" "sent", .meth "Tree" "taken", .meth "Tree" "settle", .meth "Tree" "came_back", .glo "normal", .glo "half", .glo "plus", .glo "Weights", .cls "Weights", .mkr "Weights", .noat "Weights" "held", .noat "Weights" "homeward", .meth "Weights" "split", .meth "Weights" "add", .meth "Weights" "rested", .meth "Weights" "came_home"]
def fa1 : List He.Fa := [.glo "Hall", .cls "Hall", .mkr "Hall", .noat "Hall" "many", .noat "Hall" "busy", .noat "Hall" "rows", .noat "Hall" "tree", .noat "Hall" "scales", .noat "Hall" "ring", .meth "Hall" "must_be", .meth "Hall" "must_be_two", .meth "Hall" "must", .meth "Hall" "row", .meth "Hall" "send", .meth "Hall" "take", .meth "Hall" "rest", .meth "Hall" "back", .meth "Hall" "home", .meth "Hall" "pass_on", .meth "Hall" "working", .meth "Hall" "works", .meth "Hall" "is_quiet", .meth "Hall" "open_of", .meth "Hall" "above", .meth "Hall" "receipts", .meth "Hall" "weight_of", .meth "Hall" "weights_on", .meth "Hall" "weights_home", .meth "Hall" "token", .meth "Hall" "count_of", .meth "Hall" "colour_of", .meth "Hall" "told", .glo "_law_cell", .glo "_law_mix", .glo "_law_many", .glo "_law_roads", .glo "_law_choices", .glo "_law_act"]
def fa2 : List He.Fa := [.glo "_law_do", .glo "_law_play", .glo "_law_shown", .glo "_law_ask", .glo "_law_ask_one", .glo "_law_said", .glo "_law_can", .glo "law", .free "len", .free "range", .free "max", .free "tuple", .free "any", .free "isinstance", .free "int", .free "ValueError", .glo "HallError", .glo "NoHand", .glo "NotNow", .exc "NoHand", .exc "NotNow", .exm "NoHand" "HallError" true, .exm "NotNow" "HallError" true]
def fa : List He.Fa := fa0 ++ fa1 ++ fa2
abbrev R : PySem.W.OpenRow := PySem.W.OpenLaw.row PySem.Challenge.rw_quiethall_k04_refusals
abbrev hk : PySem.W.Hook := hookX 5 fa fn
def ob (s : PySem.W.SharedT) : AlX := obsX 5 fa fn (HandSHeadRun.getT s)
theorem ob_eq (s : PySem.W.SharedT) : ob s = hk.obs s.abs := obsX_eq (HandSHeadRun.getT_eq s)
theorem run (w : World) : HandSHeadRun.RunEq R (PySem.W.view R.prog [29]) hk ob 6000 ["__name__", "HallError", "NoHand", "NotNow", "Ring", "Tree", "normal", "half", "plus", "Weights", "Hall", "_law_cell", "_law_mix", "_law_many", "_law_roads", "_law_choices", "_law_act", "_law_do", "_law_play", "_law_shown", "_law_ask", "_law_ask_one", "_law_said", "_law_can"] w := by
  intro os
  kernel_rfl
theorem facts {P : Program} {w : World} {K : PySem.W.Frag} {h : Heap} {mg : Str → Option Value} {f : Addr} (X : K.In h) (G : h.Ns mainGlobals mg) (hfa : mg ("law" : Str) = some (.ref f)) (cx : SaysX fa fn K) :
    ∃ fd : FuncData, (∀ (s : Shared) (v : Value), BindsTo s fd ⟨[v], []⟩ [("_law_script", v)]) ∧ ∀ base : Heap, K.In base → base.Ns mainGlobals mg → FnOk P w K mg base CX0 9 f fd ["_law_script"] (sp_law K) := by
  obtain ⟨c, cm⟩ := cx
  obtain ⟨cm1, cm2⟩ := He.ba cm
  have D_Ring_init : Df K "__init__" "Ring.__init__" s_Ring_init (He.ma K (He.ga K "Ring") "__init__") := c.def_ 0 (d := d_Ring_init) rfl
  have D_Ring_sent : Df K "sent" "Ring.sent" s_Ring_sent (He.ma K (He.ga K "Ring") "sent") := c.def_ 1 (d := d_Ring_sent) rfl
  have D_Ring_taken : Df K "taken" "Ring.taken" s_Ring_taken (He.ma K (He.ga K "Ring") "taken") := c.def_ 2 (d := d_Ring_taken) rfl
  have D_Ring_passed : Df K "passed" "Ring.passed" s_Ring_passed (He.ma K (He.ga K "Ring") "passed") := c.def_ 3 (d := d_Ring_passed) rfl
  have D_Tree_init : Df K "__init__" "Tree.__init__" s_Tree_init (He.ma K (He.ga K "Tree") "__init__") := c.def_ 4 (d := d_Tree_init) rfl
  have D_Tree_is_in : Df K "is_in" "Tree.is_in" s_Tree_is_in (He.ma K (He.ga K "Tree") "is_in") := c.def_ 5 (d := d_Tree_is_in) rfl
  have D_Tree_slip : Df K "slip" "Tree.slip" s_Tree_slip (He.ma K (He.ga K "Tree") "slip") := c.def_ 6 (d := d_Tree_slip) rfl
  have D_Tree_sent : Df K "sent" "Tree.sent" s_Tree_sent (He.ma K (He.ga K "Tree") "sent") := c.def_ 7 (d := d_Tree_sent) rfl
  have D_Tree_taken : Df K "taken" "Tree.taken" s_Tree_taken (He.ma K (He.ga K "Tree") "taken") := c.def_ 8 (d := d_Tree_taken) rfl
  have D_Tree_settle : Df K "settle" "Tree.settle" s_Tree_settle (He.ma K (He.ga K "Tree") "settle") := c.def_ 9 (d := d_Tree_settle) rfl
  have D_Tree_came_back : Df K "came_back" "Tree.came_back" s_Tree_came_back (He.ma K (He.ga K "Tree") "came_back") := c.def_ 10 (d := d_Tree_came_back) rfl
  have D_normal : Df K "normal" "normal" s_normal (He.ga K "normal") := c.def_ 11 (d := d_normal) rfl
  have D_half : Df K "half" "half" s_half (He.ga K "half") := c.def_ 12 (d := d_half) rfl
  have D_plus : Df K "plus" "plus" s_plus (He.ga K "plus") := c.def_ 13 (d := d_plus) rfl
  have D_Weights_init : Df K "__init__" "Weights.__init__" s_Weights_init (He.ma K (He.ga K "Weights") "__init__") := c.def_ 14 (d := d_Weights_init) rfl
  have D_Weights_split : Df K "split" "Weights.split" s_Weights_split (He.ma K (He.ga K "Weights") "split") := c.def_ 15 (d := d_Weights_split) rfl
  have D_Weights_add : Df K "add" "Weights.add" s_Weights_add (He.ma K (He.ga K "Weights") "add") := c.def_ 16 (d := d_Weights_add) rfl
  have D_Weights_rested : Df K "rested" "Weights.rested" s_Weights_rested (He.ma K (He.ga K "Weights") "rested") := c.def_ 17 (d := d_Weights_rested) rfl
  have D_Weights_came_home : Df K "came_home" "Weights.came_home" s_Weights_came_home (He.ma K (He.ga K "Weights") "came_home") := c.def_ 18 (d := d_Weights_came_home) rfl
  have D_Hall_init : Df K "__init__" "Hall.__init__" s_Hall_init (He.ma K (He.ga K "Hall") "__init__") := c.def_ 19 (d := d_Hall_init) rfl
  have D_Hall_must_be : Df K "must_be" "Hall.must_be" s_Hall_must_be (He.ma K (He.ga K "Hall") "must_be") := c.def_ 20 (d := d_Hall_must_be) rfl
  have D_Hall_must_be_two : Df K "must_be_two" "Hall.must_be_two" s_Hall_must_be_two (He.ma K (He.ga K "Hall") "must_be_two") := c.def_ 21 (d := d_Hall_must_be_two) rfl
  have D_Hall_must : Df K "must" "Hall.must" s_Hall_must (He.ma K (He.ga K "Hall") "must") := c.def_ 22 (d := d_Hall_must) rfl
  have D_Hall_row : Df K "row" "Hall.row" s_Hall_row (He.ma K (He.ga K "Hall") "row") := c.def_ 23 (d := d_Hall_row) rfl
  have D_Hall_send : Df K "send" "Hall.send" s_Hall_send (He.ma K (He.ga K "Hall") "send") := c.def_ 24 (d := d_Hall_send) rfl
  have D_Hall_take : Df K "take" "Hall.take" s_Hall_take (He.ma K (He.ga K "Hall") "take") := c.def_ 25 (d := d_Hall_take) rfl
  have D_Hall_rest : Df K "rest" "Hall.rest" s_Hall_rest (He.ma K (He.ga K "Hall") "rest") := c.def_ 26 (d := d_Hall_rest) rfl
  have D_Hall_back : Df K "back" "Hall.back" s_Hall_back (He.ma K (He.ga K "Hall") "back") := c.def_ 27 (d := d_Hall_back) rfl
  have D_Hall_home : Df K "home" "Hall.home" s_Hall_home (He.ma K (He.ga K "Hall") "home") := c.def_ 28 (d := d_Hall_home) rfl
  have D_Hall_pass_on : Df K "pass_on" "Hall.pass_on" s_Hall_pass_on (He.ma K (He.ga K "Hall") "pass_on") := c.def_ 29 (d := d_Hall_pass_on) rfl
  have D_Hall_working : Df K "working" "Hall.working" s_Hall_working (He.ma K (He.ga K "Hall") "working") := c.def_ 30 (d := d_Hall_working) rfl
  have D_Hall_works : Df K "works" "Hall.works" s_Hall_works (He.ma K (He.ga K "Hall") "works") := c.def_ 31 (d := d_Hall_works) rfl
  have D_Hall_is_quiet : Df K "is_quiet" "Hall.is_quiet" s_Hall_is_quiet (He.ma K (He.ga K "Hall") "is_quiet") := c.def_ 32 (d := d_Hall_is_quiet) rfl
  have D_Hall_open_of : Df K "open_of" "Hall.open_of" s_Hall_open_of (He.ma K (He.ga K "Hall") "open_of") := c.def_ 33 (d := d_Hall_open_of) rfl
  have D_Hall_above : Df K "above" "Hall.above" s_Hall_above (He.ma K (He.ga K "Hall") "above") := c.def_ 34 (d := d_Hall_above) rfl
  have D_Hall_receipts : Df K "receipts" "Hall.receipts" s_Hall_receipts (He.ma K (He.ga K "Hall") "receipts") := c.def_ 35 (d := d_Hall_receipts) rfl
  have D_Hall_weight_of : Df K "weight_of" "Hall.weight_of" s_Hall_weight_of (He.ma K (He.ga K "Hall") "weight_of") := c.def_ 36 (d := d_Hall_weight_of) rfl
  have D_Hall_weights_on : Df K "weights_on" "Hall.weights_on" s_Hall_weights_on (He.ma K (He.ga K "Hall") "weights_on") := c.def_ 37 (d := d_Hall_weights_on) rfl
  have D_Hall_weights_home : Df K "weights_home" "Hall.weights_home" s_Hall_weights_home (He.ma K (He.ga K "Hall") "weights_home") := c.def_ 38 (d := d_Hall_weights_home) rfl
  have D_Hall_token : Df K "token" "Hall.token" s_Hall_token (He.ma K (He.ga K "Hall") "token") := c.def_ 39 (d := d_Hall_token) rfl
  have D_Hall_count_of : Df K "count_of" "Hall.count_of" s_Hall_count_of (He.ma K (He.ga K "Hall") "count_of") := c.def_ 40 (d := d_Hall_count_of) rfl
  have D_Hall_colour_of : Df K "colour_of" "Hall.colour_of" s_Hall_colour_of (He.ma K (He.ga K "Hall") "colour_of") := c.def_ 41 (d := d_Hall_colour_of) rfl
  have D_Hall_told : Df K "told" "Hall.told" s_Hall_told (He.ma K (He.ga K "Hall") "told") := c.def_ 42 (d := d_Hall_told) rfl
  have D_l_cell : Df K "_law_cell" "_law_cell" s_l_cell (He.ga K "_law_cell") := c.def_ 43 (d := d_l_cell) rfl
  have D_l_mix : Df K "_law_mix" "_law_mix" s_l_mix (He.ga K "_law_mix") := c.def_ 44 (d := d_l_mix) rfl
  have D_l_many : Df K "_law_many" "_law_many" s_l_many (He.ga K "_law_many") := c.def_ 45 (d := d_l_many) rfl
  have D_l_roads : Df K "_law_roads" "_law_roads" s_l_roads (He.ga K "_law_roads") := c.def_ 46 (d := d_l_roads) rfl
  have D_l_choices : Df K "_law_choices" "_law_choices" s_l_choices (He.ga K "_law_choices") := c.def_ 47 (d := d_l_choices) rfl
  have D_l_act : Df K "_law_act" "_law_act" s_l_act (He.ga K "_law_act") := c.def_ 48 (d := d_l_act) rfl
  have D_l_do : Df K "_law_do" "_law_do" s_l_do (He.ga K "_law_do") := c.def_ 49 (d := d_l_do) rfl
  have D_l_play : Df K "_law_play" "_law_play" s_l_play (He.ga K "_law_play") := c.def_ 50 (d := d_l_play) rfl
  have D_l_shown : Df K "_law_shown" "_law_shown" s_l_shown (He.ga K "_law_shown") := c.def_ 51 (d := d_l_shown) rfl
  have D_l_ask : Df K "_law_ask" "_law_ask" s_l_ask (He.ga K "_law_ask") := c.def_ 52 (d := d_l_ask) rfl
  have D_l_ask_one : Df K "_law_ask_one" "_law_ask_one" s_l_ask_one (He.ga K "_law_ask_one") := c.def_ 53 (d := d_l_ask_one) rfl
  have D_l_said : Df K "_law_said" "_law_said" s_l_said (He.ga K "_law_said") := c.def_ 54 (d := d_l_said) rfl
  have D_l_can : Df K "_law_can" "_law_can" s_l_can (He.ga K "_law_can") := c.def_ 55 (d := d_l_can) rfl
  have D_law : Df K "law" "law" s_law (He.ga K "law") := c.def_ 56 (d := d_law) rfl
  have aHall : ∀ f ∈ (["many", "busy", "rows", "tree", "scales", "ring"] : List Str), NoAttr K (He.ga K "Hall") f := by
    intro f hf
    simp only [List.mem_cons, List.not_mem_nil, or_false] at hf
    rcases hf with rfl | rfl | rfl | rfl | rfl | rfl
    · exact He.noat_ok (c.fact 41 (f := .noat "Hall" "many") rfl)
    · exact He.noat_ok (c.fact 42 (f := .noat "Hall" "busy") rfl)
    · exact He.noat_ok (c.fact 43 (f := .noat "Hall" "rows") rfl)
    · exact He.noat_ok (c.fact 44 (f := .noat "Hall" "tree") rfl)
    · exact He.noat_ok (c.fact 45 (f := .noat "Hall" "scales") rfl)
    · exact He.noat_ok (c.fact 46 (f := .noat "Hall" "ring") rfl)
  have aTree : ∀ f ∈ (["due", "over", "slips"] : List Str), NoAttr K (He.ga K "Tree") f := by
    intro f hf
    simp only [List.mem_cons, List.not_mem_nil, or_false] at hf
    rcases hf with rfl | rfl | rfl
    · exact He.noat_ok (c.fact 17 (f := .noat "Tree" "due") rfl)
    · exact He.noat_ok (c.fact 18 (f := .noat "Tree" "over") rfl)
    · exact He.noat_ok (c.fact 19 (f := .noat "Tree" "slips") rfl)
  have aWeights : ∀ f ∈ (["held", "homeward"] : List Str), NoAttr K (He.ga K "Weights") f := by
    intro f hf
    simp only [List.mem_cons, List.not_mem_nil, or_false] at hf
    rcases hf with rfl | rfl
    · exact He.noat_ok (c.fact 32 (f := .noat "Weights" "held") rfl)
    · exact He.noat_ok (c.fact 33 (f := .noat "Weights" "homeward") rfl)
  have aRing : ∀ f ∈ (["many", "counts", "colours", "place", "sum", "colour", "begun", "found"] : List Str), NoAttr K (He.ga K "Ring") f := by
    intro f hf
    simp only [List.mem_cons, List.not_mem_nil, or_false] at hf
    rcases hf with rfl | rfl | rfl | rfl | rfl | rfl | rfl | rfl
    · exact He.noat_ok (c.fact 3 (f := .noat "Ring" "many") rfl)
    · exact He.noat_ok (c.fact 4 (f := .noat "Ring" "counts") rfl)
    · exact He.noat_ok (c.fact 5 (f := .noat "Ring" "colours") rfl)
    · exact He.noat_ok (c.fact 6 (f := .noat "Ring" "place") rfl)
    · exact He.noat_ok (c.fact 7 (f := .noat "Ring" "sum") rfl)
    · exact He.noat_ok (c.fact 8 (f := .noat "Ring" "colour") rfl)
    · exact He.noat_ok (c.fact 9 (f := .noat "Ring" "begun") rfl)
    · exact He.noat_ok (c.fact 10 (f := .noat "Ring" "found") rfl)
  have T : Txt2 K mg := ⟨⟨⟨He.cls_ok (c.fact 39 (f := .cls "Hall") rfl), He.cls_ok (c.fact 15 (f := .cls "Tree") rfl), He.cls_ok (c.fact 30 (f := .cls "Weights") rfl), He.cls_ok (c.fact 1 (f := .cls "Ring") rfl), aHall, aTree, aWeights, aRing⟩, He.mkr_ok (c.fact 40 (f := .mkr "Hall") rfl), He.mkr_ok (c.fact 16 (f := .mkr "Tree") rfl), He.mkr_ok (c.fact 31 (f := .mkr "Weights") rfl), He.mkr_ok (c.fact 2 (f := .mkr "Ring") rfl), He.glo_ok X G (c.fact 38 (f := .glo "Hall") rfl), He.glo_ok X G (c.fact 14 (f := .glo "Tree") rfl), He.glo_ok X G (c.fact 29 (f := .glo "Weights") rfl), He.glo_ok X G (c.fact 0 (f := .glo "Ring") rfl)⟩, He.free_ok X G (c.fact 84 (f := .free "len") rfl), He.free_ok X G (c.fact 85 (f := .free "range") rfl), He.free_ok X G (c.fact 86 (f := .free "max") rfl), He.free_ok X G (c.fact 87 (f := .free "tuple") rfl), He.free_ok X G (c.fact 88 (f := .free "any") rfl), He.free_ok X G (c.fact 89 (f := .free "isinstance") rfl), He.free_ok X G (c.fact 90 (f := .free "int") rfl)⟩
  have TX : TxX K mg := ⟨He.glo_ok X G (c.fact 92 (f := .glo "HallError") rfl), He.free_ok X G (c.fact 91 (f := .free "ValueError") rfl), excB_ok cm1 (c.fact 95 (f := .exc "NoHand") rfl) (He.glo_ok X G (c.fact 93 (f := .glo "NoHand") rfl)) (He.exm_ok (c.fact 97 (f := .exm "NoHand" "HallError" true) rfl)), excB_ok cm2 (c.fact 96 (f := .exc "NotNow") rfl) (He.glo_ok X G (c.fact 94 (f := .glo "NotNow") rfl)) (He.exm_ok (c.fact 98 (f := .exm "NotNow" "HallError" true) rfl))⟩
  obtain ⟨fd, FL⟩ := D_law
  have e := hfa.symm.trans (He.glo_ok X G (c.fact 83 (f := .glo "law") rfl))
  cases e
  have b := FunD.bindsA (ps := ["_law_script"]) FL fun _ _ _ _ _ _ us hl => match us, hl with | [_], _ => rfl
  refine ⟨fd, fun s v => b s [v] rfl, fun base _ _ => ?_⟩
  have G_Ring_init : IOk P w K mg base "Ring" ["self", "many"] 1 (sp_Ring_init K) := ok_Ring_init T D_Ring_init
  have G_Ring_sent : MOk P w K mg base "Ring" "sent" ["self", "one"] 1 (sp_Ring_sent K) := ok_Ring_sent T (He.meth_ok (c.fact 11 (f := .meth "Ring" "sent") rfl)) D_Ring_sent
  have G_Ring_taken : MOk P w K mg base "Ring" "taken" ["self", "other"] 1 (sp_Ring_taken K) := ok_Ring_taken T (He.meth_ok (c.fact 12 (f := .meth "Ring" "taken") rfl)) D_Ring_taken
  have G_Ring_passed : MOk P w K mg base "Ring" "passed" ["self"] 1 (sp_Ring_passed K) := ok_Ring_passed T (He.meth_ok (c.fact 13 (f := .meth "Ring" "passed") rfl)) D_Ring_passed
  have G_Tree_init : IOk P w K mg base "Tree" ["self", "many"] 1 (sp_Tree_init K) := ok_Tree_init T D_Tree_init
  have G_Tree_is_in : MOk P w K mg base "Tree" "is_in" ["self", "hand"] 1 (sp_Tree_is_in K) := ok_Tree_is_in T (He.meth_ok (c.fact 20 (f := .meth "Tree" "is_in") rfl)) D_Tree_is_in
  have G_Tree_slip : MOk P w K mg base "Tree" "slip" ["self", "one", "other"] 1 (sp_Tree_slip K) := ok_Tree_slip T (He.meth_ok (c.fact 21 (f := .meth "Tree" "slip") rfl)) D_Tree_slip
  have G_Tree_sent : MOk P w K mg base "Tree" "sent" ["self", "one"] 1 (sp_Tree_sent K) := ok_Tree_sent T (He.meth_ok (c.fact 22 (f := .meth "Tree" "sent") rfl)) D_Tree_sent
  have G_Tree_came_back : MOk P w K mg base "Tree" "came_back" ["self", "one", "other"] 1 (sp_Tree_came_back K) := ok_Tree_came_back T (He.meth_ok (c.fact 25 (f := .meth "Tree" "came_back") rfl)) D_Tree_came_back
  have G_normal : FOk P w K mg base "normal" ["upper", "power"] 1 (sp_normal K) := ok_normal T (He.glo_ok X G (c.fact 26 (f := .glo "normal") rfl)) D_normal
  have G_Weights_init : IOk P w K mg base "Weights" ["self", "many"] 1 (sp_Weights_init K) := ok_Weights_init T D_Weights_init
  have G_Weights_rested : MOk P w K mg base "Weights" "rested" ["self", "hand"] 1 (sp_Weights_rested K) := ok_Weights_rested T (He.meth_ok (c.fact 36 (f := .meth "Weights" "rested") rfl)) D_Weights_rested
  have G_Hall_must_be : MOk P w K mg base "Hall" "must_be" ["self", "hand"] 1 (sp_Hall_must_be K) := ok_Hall_must_be T (He.meth_ok (c.fact 47 (f := .meth "Hall" "must_be") rfl)) D_Hall_must_be
  have G_Hall_must : MOk P w K mg base "Hall" "must" ["self", "holds"] 1 (sp_Hall_must K) := ok_Hall_must T (He.meth_ok (c.fact 49 (f := .meth "Hall" "must") rfl)) D_Hall_must
  have G_Hall_row : MOk P w K mg base "Hall" "row" ["self", "one", "other"] 1 (sp_Hall_row K) := ok_Hall_row T (He.meth_ok (c.fact 50 (f := .meth "Hall" "row") rfl)) D_Hall_row
  have G_Hall_working : MOk P w K mg base "Hall" "working" ["self"] 1 (sp_Hall_working K) := ok_Hall_working T (He.meth_ok (c.fact 57 (f := .meth "Hall" "working") rfl)) D_Hall_working
  have G_Hall_is_quiet : MOk P w K mg base "Hall" "is_quiet" ["self"] 1 (sp_Hall_is_quiet K) := ok_Hall_is_quiet T (He.meth_ok (c.fact 59 (f := .meth "Hall" "is_quiet") rfl)) D_Hall_is_quiet
  have G_Hall_token : MOk P w K mg base "Hall" "token" ["self"] 1 (sp_Hall_token K) := ok_Hall_token T (He.meth_ok (c.fact 66 (f := .meth "Hall" "token") rfl)) D_Hall_token
  have G_Hall_told : MOk P w K mg base "Hall" "told" ["self"] 1 (sp_Hall_told K) := ok_Hall_told T (He.meth_ok (c.fact 69 (f := .meth "Hall" "told") rfl)) D_Hall_told
  have G_l_cell : FOk P w K mg base "_law_cell" ["_law_script", "_law_k"] 1 (sp_l_cell K) := ok_l_cell T (He.glo_ok X G (c.fact 70 (f := .glo "_law_cell") rfl)) D_l_cell
  have G_l_mix : FOk P w K mg base "_law_mix" ["_law_cell_here", "_law_prime", "_law_many_here"] 1 (sp_l_mix K) := ok_l_mix T (He.glo_ok X G (c.fact 71 (f := .glo "_law_mix") rfl)) D_l_mix
  have G_l_roads : FOk P w K mg base "_law_roads" ["_law_many_here"] 1 (sp_l_roads K) := ok_l_roads T (He.glo_ok X G (c.fact 73 (f := .glo "_law_roads") rfl)) D_l_roads
  have G_Tree_taken : MOk P w K mg base "Tree" "taken" ["self", "one", "other"] 2 (sp_Tree_taken K) := ok_Tree_taken T (He.meth_ok (c.fact 23 (f := .meth "Tree" "taken") rfl)) D_Tree_taken G_Tree_is_in G_Tree_slip
  have G_Tree_settle : MOk P w K mg base "Tree" "settle" ["self", "hand", "works"] 2 (sp_Tree_settle K) := ok_Tree_settle T (He.meth_ok (c.fact 24 (f := .meth "Tree" "settle") rfl)) D_Tree_settle G_Tree_is_in G_Tree_slip
  have G_half : FOk P w K mg base "half" ["weight"] 2 (sp_half K) := ok_half T (He.glo_ok X G (c.fact 27 (f := .glo "half") rfl)) D_half G_normal
  have G_plus : FOk P w K mg base "plus" ["one", "other"] 2 (sp_plus K) := ok_plus T (He.glo_ok X G (c.fact 28 (f := .glo "plus") rfl)) D_plus G_normal
  have G_Hall_must_be_two : MOk P w K mg base "Hall" "must_be_two" ["self", "one", "other"] 2 (sp_Hall_must_be_two K) := ok_Hall_must_be_two T (He.meth_ok (c.fact 48 (f := .meth "Hall" "must_be_two") rfl)) D_Hall_must_be_two G_Hall_must_be
  have G_Hall_pass_on : MOk P w K mg base "Hall" "pass_on" ["self"] 2 (sp_Hall_pass_on K) := ok_Hall_pass_on T (He.meth_ok (c.fact 56 (f := .meth "Hall" "pass_on") rfl)) D_Hall_pass_on G_Hall_must G_Ring_passed
  have G_Hall_open_of : MOk P w K mg base "Hall" "open_of" ["self", "hand"] 2 (sp_Hall_open_of K) := ok_Hall_open_of T (He.meth_ok (c.fact 60 (f := .meth "Hall" "open_of") rfl)) D_Hall_open_of G_Hall_must_be
  have G_Hall_above : MOk P w K mg base "Hall" "above" ["self", "hand"] 2 (sp_Hall_above K) := ok_Hall_above T (He.meth_ok (c.fact 61 (f := .meth "Hall" "above") rfl)) D_Hall_above G_Hall_must_be
  have G_Hall_weight_of : MOk P w K mg base "Hall" "weight_of" ["self", "hand"] 2 (sp_Hall_weight_of K) := ok_Hall_weight_of T (He.meth_ok (c.fact 63 (f := .meth "Hall" "weight_of") rfl)) D_Hall_weight_of G_Hall_must_be
  have G_Hall_weights_home : MOk P w K mg base "Hall" "weights_home" ["self", "hand"] 2 (sp_Hall_weights_home K) := ok_Hall_weights_home T (He.meth_ok (c.fact 65 (f := .meth "Hall" "weights_home") rfl)) D_Hall_weights_home G_Hall_must_be
  have G_Hall_count_of : MOk P w K mg base "Hall" "count_of" ["self", "hand"] 2 (sp_Hall_count_of K) := ok_Hall_count_of T (He.meth_ok (c.fact 67 (f := .meth "Hall" "count_of") rfl)) D_Hall_count_of G_Hall_must_be
  have G_Hall_colour_of : MOk P w K mg base "Hall" "colour_of" ["self", "hand"] 2 (sp_Hall_colour_of K) := ok_Hall_colour_of T (He.meth_ok (c.fact 68 (f := .meth "Hall" "colour_of") rfl)) D_Hall_colour_of G_Hall_must_be
  have G_l_many : FOk P w K mg base "_law_many" ["_law_script"] 2 (sp_l_many K) := ok_l_many T (He.glo_ok X G (c.fact 72 (f := .glo "_law_many") rfl)) D_l_many G_l_mix G_l_cell
  have G_Weights_split : MOk P w K mg base "Weights" "split" ["self", "hand"] 3 (sp_Weights_split K) := ok_Weights_split T (He.meth_ok (c.fact 34 (f := .meth "Weights" "split") rfl)) D_Weights_split G_half
  have G_Weights_add : MOk P w K mg base "Weights" "add" ["self", "hand", "weight"] 3 (sp_Weights_add K) := ok_Weights_add T (He.meth_ok (c.fact 35 (f := .meth "Weights" "add") rfl)) D_Weights_add G_plus
  have G_Hall_init : IOk P w K mg base "Hall" ["self", "many"] 3 (sp_Hall_init K) := ok_Hall_init T D_Hall_init G_Tree_init G_Weights_init G_Ring_init
  have G_Hall_rest : MOk P w K mg base "Hall" "rest" ["self", "hand"] 3 (sp_Hall_rest K) := ok_Hall_rest T (He.meth_ok (c.fact 53 (f := .meth "Hall" "rest") rfl)) D_Hall_rest G_Hall_must_be G_Hall_must G_Weights_rested G_Tree_settle
  have G_Hall_works : MOk P w K mg base "Hall" "works" ["self", "one", "other"] 3 (sp_Hall_works K) := ok_Hall_works T (He.meth_ok (c.fact 58 (f := .meth "Hall" "works") rfl)) D_Hall_works G_Hall_must_be_two G_Hall_row
  have G_Hall_receipts : MOk P w K mg base "Hall" "receipts" ["self", "one", "other"] 3 (sp_Hall_receipts K) := ok_Hall_receipts T (He.meth_ok (c.fact 62 (f := .meth "Hall" "receipts") rfl)) D_Hall_receipts G_Hall_must_be_two
  have G_Hall_weights_on : MOk P w K mg base "Hall" "weights_on" ["self", "one", "other"] 3 (sp_Hall_weights_on K) := ok_Hall_weights_on T (He.meth_ok (c.fact 64 (f := .meth "Hall" "weights_on") rfl)) D_Hall_weights_on G_Hall_must_be_two G_Hall_row
  have G_Weights_came_home : MOk P w K mg base "Weights" "came_home" ["self", "hand"] 4 (sp_Weights_came_home K) := ok_Weights_came_home T (He.meth_ok (c.fact 37 (f := .meth "Weights" "came_home") rfl)) D_Weights_came_home G_Weights_add
  have G_Hall_send : MOk P w K mg base "Hall" "send" ["self", "one", "other"] 4 (sp_Hall_send K) := ok_Hall_send T (He.meth_ok (c.fact 51 (f := .meth "Hall" "send") rfl)) D_Hall_send G_Hall_must_be_two G_Hall_must G_Hall_row G_Weights_split G_Tree_sent G_Ring_sent
  have G_Hall_take : MOk P w K mg base "Hall" "take" ["self", "one", "other"] 4 (sp_Hall_take K) := ok_Hall_take T (He.meth_ok (c.fact 52 (f := .meth "Hall" "take") rfl)) D_Hall_take G_Hall_must_be_two G_Hall_must G_Hall_row G_Weights_add G_Tree_taken G_Ring_taken
  have G_Hall_back : MOk P w K mg base "Hall" "back" ["self", "one", "other"] 4 (sp_Hall_back K) := ok_Hall_back T (He.meth_ok (c.fact 54 (f := .meth "Hall" "back") rfl)) D_Hall_back G_Hall_must_be_two G_Hall_must G_Hall_receipts G_Tree_came_back G_Tree_settle
  have G_l_choices : FOk P w K mg base "_law_choices" ["_law_hall", "_law_many_here", "_law_kind"] 4 (sp_l_choices K) := ok_l_choices T (He.glo_ok X G (c.fact 74 (f := .glo "_law_choices") rfl)) D_l_choices G_l_roads G_Hall_working G_Hall_works G_Hall_receipts G_Hall_weights_home G_Hall_token
  have G_l_shown : FOk P w K mg base "_law_shown" ["_law_hall", "_law_many_here"] 4 (sp_l_shown K) := ok_l_shown T (He.glo_ok X G (c.fact 78 (f := .glo "_law_shown") rfl)) D_l_shown G_l_roads G_Hall_working G_Hall_is_quiet G_Hall_token G_Hall_told G_Hall_works G_Hall_receipts G_Hall_weights_on G_Hall_open_of G_Hall_above G_Hall_weight_of G_Hall_weights_home G_Hall_count_of G_Hall_colour_of
  have G_l_can : FOk P w K mg base "_law_can" ["_law_hall", "_law_way", "_law_one", "_law_other"] 4 (sp_l_can K) := ok_l_can T (He.glo_ok X G (c.fact 82 (f := .glo "_law_can") rfl)) D_l_can G_Hall_working G_Hall_works G_Hall_receipts G_Hall_weights_home
  have G_Hall_home : MOk P w K mg base "Hall" "home" ["self", "hand"] 5 (sp_Hall_home K) := ok_Hall_home T (He.meth_ok (c.fact 55 (f := .meth "Hall" "home") rfl)) D_Hall_home G_Hall_must_be G_Hall_must G_Weights_came_home
  have G_l_act : FOk P w K mg base "_law_act" ["_law_hall", "_law_many_here", "_law_cell_here"] 5 (sp_l_act K) := ok_l_act T (He.glo_ok X G (c.fact 75 (f := .glo "_law_act") rfl)) D_l_act G_l_choices G_l_mix
  have G_l_do : FOk P w K mg base "_law_do" ["_law_hall", "_law_act_here"] 6 (sp_l_do K) := ok_l_do T (He.glo_ok X G (c.fact 76 (f := .glo "_law_do") rfl)) D_l_do G_Hall_send G_Hall_take G_Hall_rest G_Hall_back G_Hall_home G_Hall_pass_on
  have G_l_play : FOk P w K mg base "_law_play" ["_law_hall", "_law_many_here", "_law_cells"] 7 (sp_l_play K) := ok_l_play T (He.glo_ok X G (c.fact 77 (f := .glo "_law_play") rfl)) D_l_play G_l_act G_l_do
  have X_Hall_must_be : MOkX P w K mg base "Hall" "must_be" ["self", "hand"] 1 (spX_Hall_must_be K) := okX_Hall_must_be T TX (He.meth_ok (c.fact 47 (f := .meth "Hall" "must_be") rfl)) D_Hall_must_be
  have X_Hall_must : MOkX P w K mg base "Hall" "must" ["self", "holds"] 1 (spX_Hall_must K) := okX_Hall_must T TX (He.meth_ok (c.fact 49 (f := .meth "Hall" "must") rfl)) D_Hall_must
  have X_Hall_must_be_two : MOkX P w K mg base "Hall" "must_be_two" ["self", "one", "other"] 2 (spX_Hall_must_be_two K) := okX_Hall_must_be_two T TX (He.meth_ok (c.fact 48 (f := .meth "Hall" "must_be_two") rfl)) D_Hall_must_be_two X_Hall_must_be
  have X_Hall_open_of : MOkX P w K mg base "Hall" "open_of" ["self", "hand"] 2 (spX_Hall_open_of K) := okX_Hall_open_of T TX (He.meth_ok (c.fact 60 (f := .meth "Hall" "open_of") rfl)) D_Hall_open_of X_Hall_must_be
  have X_Hall_above : MOkX P w K mg base "Hall" "above" ["self", "hand"] 2 (spX_Hall_above K) := okX_Hall_above T TX (He.meth_ok (c.fact 61 (f := .meth "Hall" "above") rfl)) D_Hall_above X_Hall_must_be
  have X_Hall_weight_of : MOkX P w K mg base "Hall" "weight_of" ["self", "hand"] 2 (spX_Hall_weight_of K) := okX_Hall_weight_of T TX (He.meth_ok (c.fact 63 (f := .meth "Hall" "weight_of") rfl)) D_Hall_weight_of X_Hall_must_be
  have X_Hall_weights_home : MOkX P w K mg base "Hall" "weights_home" ["self", "hand"] 2 (spX_Hall_weights_home K) := okX_Hall_weights_home T TX (He.meth_ok (c.fact 65 (f := .meth "Hall" "weights_home") rfl)) D_Hall_weights_home X_Hall_must_be
  have X_Hall_count_of : MOkX P w K mg base "Hall" "count_of" ["self", "hand"] 2 (spX_Hall_count_of K) := okX_Hall_count_of T TX (He.meth_ok (c.fact 67 (f := .meth "Hall" "count_of") rfl)) D_Hall_count_of X_Hall_must_be
  have X_Hall_colour_of : MOkX P w K mg base "Hall" "colour_of" ["self", "hand"] 2 (spX_Hall_colour_of K) := okX_Hall_colour_of T TX (He.meth_ok (c.fact 68 (f := .meth "Hall" "colour_of") rfl)) D_Hall_colour_of X_Hall_must_be
  have X_Hall_pass_on : MOkX P w K mg base "Hall" "pass_on" ["self"] 2 (spX_Hall_pass_on K) := okX_Hall_pass_on T TX (He.meth_ok (c.fact 56 (f := .meth "Hall" "pass_on") rfl)) D_Hall_pass_on X_Hall_must
  have X_Hall_works : MOkX P w K mg base "Hall" "works" ["self", "one", "other"] 3 (spX_Hall_works K) := okX_Hall_works T TX (He.meth_ok (c.fact 58 (f := .meth "Hall" "works") rfl)) D_Hall_works X_Hall_must_be_two
  have X_Hall_receipts : MOkX P w K mg base "Hall" "receipts" ["self", "one", "other"] 3 (spX_Hall_receipts K) := okX_Hall_receipts T TX (He.meth_ok (c.fact 62 (f := .meth "Hall" "receipts") rfl)) D_Hall_receipts X_Hall_must_be_two
  have X_Hall_weights_on : MOkX P w K mg base "Hall" "weights_on" ["self", "one", "other"] 3 (spX_Hall_weights_on K) := okX_Hall_weights_on T TX (He.meth_ok (c.fact 64 (f := .meth "Hall" "weights_on") rfl)) D_Hall_weights_on X_Hall_must_be_two
  have X_Hall_rest : MOkX P w K mg base "Hall" "rest" ["self", "hand"] 3 (spX_Hall_rest K) := okX_Hall_rest T TX (He.meth_ok (c.fact 53 (f := .meth "Hall" "rest") rfl)) D_Hall_rest X_Hall_must_be X_Hall_must
  have X_Hall_send : MOkX P w K mg base "Hall" "send" ["self", "one", "other"] 4 (spX_Hall_send K) := okX_Hall_send T TX (He.meth_ok (c.fact 51 (f := .meth "Hall" "send") rfl)) D_Hall_send X_Hall_must_be_two X_Hall_must
  have X_Hall_take : MOkX P w K mg base "Hall" "take" ["self", "one", "other"] 4 (spX_Hall_take K) := okX_Hall_take T TX (He.meth_ok (c.fact 52 (f := .meth "Hall" "take") rfl)) D_Hall_take G_Hall_row X_Hall_must_be_two X_Hall_must
  have X_Hall_back : MOkX P w K mg base "Hall" "back" ["self", "one", "other"] 4 (spX_Hall_back K) := okX_Hall_back T TX (He.meth_ok (c.fact 54 (f := .meth "Hall" "back") rfl)) D_Hall_back G_Hall_receipts X_Hall_must_be_two X_Hall_must
  have X_Hall_home : MOkX P w K mg base "Hall" "home" ["self", "hand"] 5 (spX_Hall_home K) := okX_Hall_home T TX (He.meth_ok (c.fact 55 (f := .meth "Hall" "home") rfl)) D_Hall_home X_Hall_must_be X_Hall_must
  have X_l_ask_one : FOkX P w K mg base "_law_ask_one" ["_law_hall", "_law_way", "_law_one"] 6 (spX_l_ask_one K) := okX_l_ask_one T TX (He.glo_ok X G (c.fact 80 (f := .glo "_law_ask_one") rfl)) D_l_ask_one X_Hall_rest X_Hall_home X_Hall_open_of X_Hall_above X_Hall_weight_of X_Hall_weights_home X_Hall_count_of X_Hall_colour_of
  have X_l_ask : FOkX P w K mg base "_law_ask" ["_law_hall", "_law_way", "_law_one", "_law_other"] 7 (spX_l_ask K) := okX_l_ask T TX (He.glo_ok X G (c.fact 79 (f := .glo "_law_ask") rfl)) D_l_ask X_Hall_send X_Hall_take X_Hall_back X_Hall_works X_Hall_receipts X_Hall_weights_on X_l_ask_one
  have G_l_said : FOk P w K mg base "_law_said" ["_law_hall", "_law_way", "_law_one", "_law_other"] 8 (sp_l_said K) := ok_l_said T TX (He.glo_ok X G (c.fact 81 (f := .glo "_law_said") rfl)) D_l_said X_Hall_pass_on X_l_ask
  exact ok_law T FL G_l_many G_Hall_init G_l_play G_l_shown G_l_cell G_l_said G_l_roads G_l_can G_Hall_token G_Hall_working
end QH
open PySem PySem.W PySem.Calls PyProof.Rows
theorem PySem.Challenge.cw_quiethall_k04_refusals_holds : PySem.Challenge.rw_quiethall_k04_refusals.Holds := by
  w_on; o_law
  refine HandSHeadRun.head_any (r := OpenLaw.row PySem.Challenge.rw_quiethall_k04_refusals) (q := view (OpenLaw.row PySem.Challenge.rw_quiethall_k04_refusals).prog [29]) (H := QH.hk) (ob := QH.ob) (M := 6000) (loose := ["__name__", "HallError", "NoHand", "NotNow", "Ring", "Tree", "normal", "half", "plus", "Weights", "Hall", "_law_cell", "_law_mix", "_law_many", "_law_roads", "_law_choices", "_law_act", "_law_do", "_law_play", "_law_shown", "_law_ask", "_law_ask_one", "_law_said", "_law_can"]) (d := HandSHeadRun.topDef (OpenLaw.row PySem.Challenge.rw_quiethall_k04_refusals).prog 29) (kwd := []) QH.ob_eq
    (by kernel_rfl) (fun s => by kernel_rfl) QH.run (by kernel_rfl) (by kernel_rfl) (by kernel_rfl) (by rfl) (by first | assumption | decide +kernel) (by decide +kernel) ⟨rfl, rfl, rfl, rfl, rfl, by decide +kernel⟩ ?hw ?hc
  case hw => w_witness2
  case hc =>
    refine L2.walk_ofE (l := PySem.Challenge.rw_quiethall_k04_refusals) (n := 63) (k := 9) (x := "_law_script") (CX := L2.CX0) rfl (by decide) (by kernel_rfl) ⟨rfl, by decide, by decide⟩ ?F (fun _ _ _ _ z => z)
    intro w mg fa h Y G hmg0
    obtain ⟨K, KX, c⟩ := Y
    have hmg : mg ("law" : PySem.Str) = some (.ref fa) := by
      have e : (HandSHeadRun.topDef (OpenLaw.row PySem.Challenge.rw_quiethall_k04_refusals).prog 29).name = ("law" : PySem.Str) := by kernel_rfl
      rw [← e]
      exact hmg0
    obtain ⟨fd, hb, hF⟩ := QH.facts (P := (PySem.Challenge.rw_quiethall_k04_refusals).prog) (w := w) KX G hmg c
    exact ⟨K, fd, QH.sp_law K, KX, hb, fun H a ns hl _ hS => ⟨a, ns, rfl, hS, hl, fun _ => rfl⟩, hF⟩
